import PyProof.Rows.All
import Wide.All
import OpenK.AllK
import Wide.FinOn
import PySem.Challenge.RW_nu0232_01
set_option Elab.async false
set_option genInjectivity false
set_option genSizeOf false
namespace Mine.O
set_option linter.unusedVariables false
section
variable {a b c d e f h i j k l m n s t u v x y z L M N P R S : Nat}
theorem a1 (q : h < n) : n - h = n - h - 1 + 1 := (Nat.sub_add_cancel (Nat.sub_pos_of_lt q)).symm
theorem a1c (q : (i : Int) < (e : Int) - s) : e - s - i = e - s - i - 1 + 1 := by
  refine a1 (Int.ofNat_lt.mp ?_)
  rw [Int.ofNat_sub (Int.ofNat_le.mp (Int.le_of_lt (Int.lt_of_sub_pos (Int.lt_of_le_of_lt (Int.natCast_nonneg i) q))))]
  exact q
theorem a1m (q : i < min a n - l) : a - l - i = a - l - i - 1 + 1 := a1 (Nat.lt_of_lt_of_le q (Nat.sub_le_sub_right (Nat.min_le_left _ _) _))
theorem a2 (q : n - h = f + 1) : f = n - h - 1 := by rw [q]; rfl
theorem a3 (q : n - i = f + 1) : f = n - (i + 1) := a2 q
theorem a3' (q : n - i = f + 1) : n - (i + 1) = f := (a2 q).symm
theorem a4 : n - h - 1 = n - (h + 1) := rfl
theorem a5 (q : h < n) : 0 < n - h := Nat.sub_pos_of_lt q
theorem a6 (q : n < 150) : n - k < 200 := Nat.lt_of_le_of_lt (Nat.sub_le _ _) (Nat.lt_trans q (by decide))
theorem a7 (p : h ≤ n) (q : ¬ h < n) : h = n := Nat.le_antisymm p (Nat.not_lt.mp q)
theorem a7' (q : ¬ j < n) (p : j < n + 1) : j = n := Nat.le_antisymm (Nat.le_of_lt_succ p) (Nat.not_lt.mp q)
theorem a7'' (e : n = i) (q : ¬ j < n) (p : j < i + 1) : j = n := by subst e; exact a7' q p
theorem a8 (p : a < b) : a + 1 ≤ b := p
theorem a8r (p : a + 1 ≤ b) : a < b := p
theorem a9 (p : a = b) (q : s < b) : s < a := p ▸ q
theorem a9r (p : a = b) (q : b < s) : a < s := p ▸ q
theorem a9t (p : a = b) (q : s < b) : s + 1 ≤ a := p ▸ q
theorem a9u (p : a = b) (q : s < b) : s ≤ a := Nat.le_of_lt (p ▸ q)
theorem a10 (p : ¬ j = k) : L + k ≠ L + j := fun q => p (Nat.add_left_cancel q).symm
theorem a11 : L ≠ L + 1 + j := Nat.ne_of_lt (Nat.lt_of_lt_of_le (Nat.lt_succ_self L) (Nat.le_add_right _ _))
theorem a11' : L + 1 + j ≠ L := fun q => a11 q.symm
theorem a11s (p : j < k) : L + k ≠ L + j := fun q => Nat.ne_of_gt p (Nat.add_left_cancel q)
theorem a11t (p : j < k) : L + j ≠ L + k := fun q => Nat.ne_of_lt p (Nat.add_left_cancel q)
theorem a12 : (k : Int) + 1 = ((k + 1 : Nat) : Int) := rfl
theorem a12a : ((m + 1 : Nat) : Int) - 1 = (m : Int) := Int.add_sub_cancel (m : Int) 1
theorem a12b (q : 0 < h) : (h : Int) - 1 = ((h - 1 : Nat) : Int) := (Int.ofNat_sub q).symm
theorem a12c (p : 0 < e) (q : e ≤ h) : (h : Int) - 1 = ((h - 1 : Nat) : Int) := a12b (Nat.lt_of_lt_of_le p q)
theorem a12d : (1 : Int) + (i : Int) = ((1 + i : Nat) : Int) := rfl
theorem a12e : ((1 + i : Nat) : Int) - 1 = (i : Int) := by rw [Nat.add_comm]; exact a12a
theorem a12f : (s : Int) + (i : Int) = ((s + i : Nat) : Int) := rfl
theorem a12g (q : (j : Int) = (k : Int)) : j = k := Int.ofNat.inj q
theorem a12h (p : ¬ j = x) : ¬ (x : Int) = (j : Int) := fun q => p (Int.ofNat.inj q).symm
theorem a13 (q : n < 150) : n < 1000 := Nat.lt_trans q (by decide)
theorem a13a (q : n < 150) : n + 1 < 1000 := Nat.lt_trans (Nat.succ_lt_succ q) (by decide)
theorem a13b (q : n < 10) : n < 1000 := Nat.lt_trans q (by decide)
theorem a13c (q : n < 4) : n < 1000 := Nat.lt_trans q (by decide)
theorem a13d (q : n < 4) : n + 1 < 1000 := Nat.lt_trans (Nat.succ_lt_succ q) (by decide)
theorem a13e (q : n < 200) : n < 1000 := Nat.lt_trans q (by decide)
theorem a13f (q : n < 1000) : n < 100000 := Nat.lt_trans q (by decide)
theorem a13g (q : n ≤ 63) : n < 1000 := Nat.lt_of_le_of_lt q (by decide)
theorem a13h (e : n = i) (q : i < 10) : n < 1000 := a13b (e ▸ q)
theorem a13j (e : n = i) (q : i < 100) : n < 1000 := e ▸ Nat.lt_trans q (by decide)
theorem a13k (p : n ≤ i) (q : i < 4) : n < 1000 := a13c (Nat.lt_of_le_of_lt p q)
theorem a13l (q : 0 < n ∧ n < 5) : n < 1000 := Nat.lt_trans q.2 (by decide)
theorem a13m (p : a ≤ i + 1) (r : i < n) (q : n < 150) : a < 1000 := Nat.lt_of_le_of_lt p (Nat.lt_trans (Nat.succ_lt_succ (Nat.lt_trans r q)) (by decide))
theorem a13o (e : c = l + 1) (q : l < 150) : c < 1000 := e ▸ a13a q
theorem a13p (p : k < n) (q : n < 150) : k < 200 := Nat.lt_trans p (Nat.lt_trans q (by decide))
theorem a13q (e : a = n) (p : k ≤ n) (q : n < 150) : k < 1000 := Nat.lt_of_le_of_lt p (a13 q)
theorem a13r (e : a = n) (r : c = n) (q : n < 150) : c < 150 := r ▸ q
theorem a13s (p : k ≤ n) (q : n < 150) : n + k < 1000 := Nat.lt_trans (Nat.add_lt_add_of_lt_of_le q (Nat.le_trans p (Nat.le_of_lt q))) (by decide)
theorem a13t (q : n < 100) : n < 1000 := Nat.lt_trans q (by decide)
theorem a14 (p : j < n) (q : n < 150) : (j : Int) < 1000 := Int.ofNat_lt.mpr (a13 (Nat.lt_trans p q))
theorem a14a (p : j < n) (q : n < 150) : ((j + 1 : Nat) : Int) < 1000 := Int.ofNat_lt.mpr (a13a (Nat.lt_trans p q))
theorem a14b (q : n < 150) : (n : Int) < 1000 := Int.ofNat_lt.mpr (a13 q)
theorem a14c : (-1000 : Int) < (n : Int) := Int.lt_of_lt_of_le (by decide) (Int.natCast_nonneg n)
theorem a14d (p : k ≤ k ∧ k ≤ l) (r : l < n) (q : n < 150) : (k : Int) < 1000 := a14 (Nat.lt_of_le_of_lt p.2 r) q
theorem a14e : (0 : Int) < ((m + 1 : Nat) : Int) := Int.ofNat_lt.mpr (Nat.succ_pos m)
theorem a14f : (-1000 : Int) < 1 + (n : Int) := a14c (n := 1 + n)
theorem a14g : (0 : Int) ≤ 1 + (n : Int) := Int.natCast_nonneg (1 + n)
theorem a14h (q : 0 < n) : (0 : Int) < (n : Int) := Int.ofNat_lt.mpr q
theorem a14i : (0 : Int) ≤ (n : Int) := Int.natCast_nonneg n
theorem a14j (q : n < 1000) : (0 : Int) ≤ (n : Int) ∧ (n : Int) < 1000 := ⟨Int.natCast_nonneg n, Int.ofNat_lt.mpr q⟩
theorem a15 (p : (-1000 : Int) < z') (q : z' < 1000) : (-4611686018427387904 : Int) < z' ∧ z' < 4611686018427387904 := ⟨Int.lt_trans (by decide) p, Int.lt_trans q (by decide)⟩
theorem a16 (q : n ≤ M) : min x (n - y) ≤ M := Nat.le_trans (Nat.min_le_right _ _) (Nat.le_trans (Nat.sub_le _ _) q)
theorem a16a (q : n < M) : min x n - k < M := Nat.lt_of_le_of_lt (Nat.le_trans (Nat.sub_le _ _) (Nat.min_le_right _ _)) q
theorem a16c : min (min 40 n) n = min 40 n := Nat.min_eq_left (Nat.min_le_right _ _)
theorem a16d : min 40 n ≤ 40 := Nat.min_le_left _ _
theorem a16e : min 40 n + 2 < 100 := Nat.lt_of_le_of_lt (Nat.add_le_add_right a16d 2) (by decide)
theorem a16f (p : l ≤ h) (q : h ≤ n) : min l n = l := Nat.min_eq_left (Nat.le_trans p q)
theorem a16g (q : h ≤ n) : min h n = h := Nat.min_eq_left q
theorem a16h : min i n ≤ n := Nat.min_le_right _ _
theorem a17 (he : e ≤ n) (u : e ≤ h ∧ h ≤ e + (n - e)) : h ≤ n := Nat.add_sub_cancel' he ▸ u.2
theorem a17a (he : e ≤ n) (u : e ≤ h ∧ h ≤ e + (n - e)) : min h n - l = h - l := by rw [Nat.min_eq_left (a17 he u)]
theorem a17b (r : m = n) (q : i < min h n - l) : l + i < m := r ▸ Nat.lt_of_lt_of_le (Nat.add_lt_of_lt_sub' q) (Nat.min_le_right _ _)
theorem a17c (q : i < min h n - l) : l + i < h := Nat.lt_of_lt_of_le (Nat.add_lt_of_lt_sub' q) (Nat.min_le_left _ _)
theorem a18 (h1 : a ≤ P) (h2 : P ≤ a + d) : a + (d - (d + a - P)) = P := by
  obtain ⟨t, rfl⟩ := Nat.exists_eq_add_of_le h1
  rw [Nat.add_comm d a, Nat.add_sub_add_left, Nat.sub_sub_self (Nat.le_of_add_le_add_left h2)]
theorem a18a (p : n ≤ v + d) (q : d ≤ n) (r : ¬ i < v) : i - (n - d) = d + v - n + (i - v) := by
  obtain ⟨t, rfl⟩ := Nat.exists_eq_add_of_le (Nat.not_lt.mp r)
  obtain ⟨u, rfl⟩ := Nat.exists_eq_add_of_le q
  rw [Nat.add_sub_cancel_left, Nat.add_sub_cancel_left, Nat.add_sub_add_left, Nat.sub_add_comm (Nat.le_of_add_le_add_left (Nat.add_comm v d ▸ p))]
theorem a18b (p : n ≤ v + d) (q : d ≤ n) (r : ¬ i < v) : n - d + (i - (n - d)) = i :=
  Nat.add_sub_cancel' (Nat.le_trans (Nat.sub_le_iff_le_add.mpr p) (Nat.not_lt.mp r))
theorem a18c (p : n ≤ v + d) (r : i < n - d) : i < v := Nat.lt_of_lt_of_le r (Nat.sub_le_iff_le_add.mpr p)
theorem a19 (p : a ≤ b) (q : ¬ a + i < b) : b + (i - (b - a)) = a + i := by
  obtain ⟨t, rfl⟩ := Nat.exists_eq_add_of_le p
  rw [Nat.add_sub_cancel_left, Nat.add_assoc, Nat.add_sub_cancel' (Nat.le_of_add_le_add_left (Nat.not_lt.mp q))]
theorem a19a (p : a ≤ b) (q : ¬ a + i < b) (r : a + i < c) : b + (i - (b - a)) < c := a19 p q ▸ r
theorem a19b (p : a ≤ b) (q : ¬ a + i < b) : a + i = b + (i - (b - a)) := (a19 p q).symm
theorem a19c (p : a ≤ b) (q : ¬ a + i < b) (r : ¬ a + i < c) : ¬ b + (i - (b - a)) < c := a19 p q ▸ r
theorem a19d (p : a ≤ b) (q : a + i < b) : i < b - a := Nat.lt_sub_of_add_lt (Nat.add_comm a i ▸ q)
theorem a19e (p : a ≤ j ∧ j < b) : a + (j - a) = j := Nat.add_sub_cancel' p.1
theorem a19f (p : a ≤ j ∧ j < b) : a + (j - a) < b := (a19e p).symm ▸ p.2
theorem a19g (p : a + i < b) : a ≤ a + i ∧ a + i < b := ⟨Nat.le_add_right _ _, p⟩
theorem a20 (q : ¬ a = b → a = c) : a = b ∨ a = c := (Decidable.em (a = b)).imp_right q
theorem a21 : ((n : Int) - 0).toNat = n := rfl
theorem a21a : e - s - ((e : Int) - (s : Int)).toNat = 0 := by rw [Int.toNat_sub]; exact Nat.sub_self _
theorem a21b (h : 0 < n) : (-1 + (n : Int)).toNat = n - 1 := by rw [Int.add_comm]; exact Int.toNat_sub n 1
theorem a21c (p : l ≤ h) : (max (l : Int) (h : Int)).toNat = h := by rw [Int.max_eq_right (Int.ofNat_le.mpr p)]; rfl
theorem a21d : ((n : Int) + 1 - 1).toNat = n := by rw [Int.add_sub_cancel]; rfl
theorem a21e {w : Int} (q : 0 ≤ w) : ((w.toNat : Nat) : Int) = w := Int.toNat_of_nonneg q
theorem a21f {w : Int} (q : w < (m : Int)) (r : 0 < m) : w.toNat < m := (Int.toNat_lt' r).mpr q
theorem a22 (p : i < n) : n + 1 - (i + 1) < n + 1 - i := Nat.sub_lt_sub_left (Nat.lt_succ_of_lt p) (Nat.lt_succ_self i)
theorem a22a (p : i < n) : n - (i + 1) < n - i := Nat.sub_lt_sub_left p (Nat.lt_succ_self i)
theorem a23 (p : j < n) (q : j + 1 ≤ h ∧ h < j + 1 + (n - (j + 1))) : h < n := Nat.add_sub_cancel' (show j + 1 ≤ n from p) ▸ q.2
theorem a23a (q : j + 1 ≤ h ∧ h < j + 1 + (n - (j + 1))) (r : h < x) : j < x := Nat.lt_trans q.1 r
theorem a23b (q : j + 1 ≤ h ∧ h < j + 1 + (n - (j + 1))) : j < h := q.1
theorem a24 (p : s < n) (r : ¬ (s < j ∧ j < n)) : ¬ (s + 1 ≤ j ∧ j < s + 1 + (n - (s + 1))) := by rw [Nat.add_sub_cancel' (show s + 1 ≤ n from p)]; exact r
theorem a24a (p : s < n) (r : s < j ∧ j < n) : s + 1 ≤ j ∧ j < s + 1 + (n - (s + 1)) := by rw [Nat.add_sub_cancel' (show s + 1 ≤ n from p)]; exact r
theorem a24b (p : s < n) (r : n < x) : s + 1 + (n - (s + 1)) ≤ x := by rw [Nat.add_sub_cancel' (show s + 1 ≤ n from p)]; exact Nat.le_of_lt r
theorem a25 : s + (n + 1) = s + 1 + n := by rw [Nat.add_comm n, Nat.add_assoc]
theorem a25a (p : ¬ k = s) (q : ¬ (s + 1 ≤ k ∧ k < s + 1 + n)) : ¬ (s ≤ k ∧ k < s + (n + 1)) := fun r => q ⟨Nat.lt_of_le_of_ne r.1 (fun z => p z.symm), a25 ▸ r.2⟩
theorem a25b (q : s + 1 ≤ k ∧ k < s + 1 + n) : s ≤ k ∧ k < s + (n + 1) := ⟨Nat.le_of_lt q.1, a25 ▸ q.2⟩
theorem a25c : k ≤ k ∧ k < k + (n + 1) := ⟨Nat.le_refl k, Nat.lt_add_of_pos_right (Nat.succ_pos n)⟩
theorem a25d (q : s + (n + 1) ≤ m) : s + 1 + n ≤ m := a25 ▸ q
theorem a25e (q : e + 1 ≤ m ∧ m ≤ e + 1 + f) : e ≤ m ∧ m ≤ e + (f + 1) := ⟨Nat.le_of_lt q.1, a25 ▸ q.2⟩
theorem a25f : s + 1 + n = s + (n + 1) := a25.symm
theorem a26 (q : d + 3 * (k + 1) + 10 < R) : d + 1 + 3 * k + 10 < R := by
  refine Nat.lt_of_le_of_lt ?_ q
  rw [Nat.mul_add, Nat.add_assoc d 1, Nat.add_comm 1]
  exact Nat.add_le_add_right (Nat.add_le_add_left (Nat.add_le_add_left (by decide) _) _) _
theorem a26a (q : d + 3 * (k + 1) + 10 < R) : d + 3 * k + 10 < R := Nat.lt_of_le_of_lt (Nat.add_le_add_right (Nat.add_le_add_left (Nat.mul_le_mul_left 3 (Nat.le_succ k)) _) _) q
theorem a26b (p : c ≤ 50) (q : d + 50 * (k + 1) + 500 < R) : d + c + 50 * k + 500 < R := by
  refine Nat.lt_of_le_of_lt ?_ q
  rw [Nat.mul_add, Nat.add_assoc d, Nat.add_comm c]
  exact Nat.add_le_add_right (Nat.add_le_add_left (Nat.add_le_add_left p _) _) _
theorem a26c (q : d + 50 * (k + 1) + 500 < R) : d + 50 * k + 500 < R := a26b (Nat.zero_le 50) q
theorem a26d (q : d + 50 * (k + 1) + 500 < R) : d + 1 + 50 * k + 500 < R := a26b (by decide) q
theorem a26e (q : d + 50 * (k + 1) + 500 < R) : d + 3 + 50 * k + 500 < R := a26b (by decide) q
theorem a26f (p : u ≤ d + 10) (q : d + 50 * (k + 1) + 500 < R) : u + 50 * k + 500 < R :=
  Nat.lt_of_le_of_lt (Nat.add_le_add_right (Nat.add_le_add_right p _) _) (a26b (by decide) q)
theorem a26g (q : d + 50 * k + 500 < R) : d + 65 < R := Nat.lt_of_le_of_lt (by rw [Nat.add_assoc]; exact Nat.add_le_add_left (Nat.le_trans (by decide) (Nat.le_add_left _ _)) _) q
theorem a26h (q : d + 65 < R) : d < R := Nat.lt_of_le_of_lt (Nat.le_add_right _ _) q
theorem a27 (c0 : c < 200) (i0 : i < 4) (k0 : k < 100) : c + 1 + 10 * i + k < 1000 :=
  Nat.lt_trans (Nat.add_lt_add (Nat.add_lt_add_of_lt_of_le (Nat.add_lt_add_right c0 1) (Nat.mul_le_mul_left 10 (Nat.le_of_lt i0))) k0) (by decide)
theorem a27a (c0 : c < 200) (i0 : i < 4) (e : n = j) (j0 : j < 4) : c + 1 + 10 * i + 2 + j < 1000 :=
  Nat.add_assoc _ 2 j ▸ a27 c0 i0 (Nat.lt_trans (Nat.add_lt_add_left j0 2) (by decide))
theorem a28 (c0 : c < 10) (i0 : i < 10) (k0 : k < 100) : c + 1 + 8 * i + k < 1000 :=
  Nat.lt_trans (Nat.add_lt_add (Nat.add_lt_add_of_lt_of_le (Nat.add_lt_add_right c0 1) (Nat.mul_le_mul_left 8 (Nat.le_of_lt i0))) k0) (by decide)
theorem a28a (e : n = i) (i0 : i < 10) (c0 : c < 10) (k0 : k ≤ 5) : c + 1 + 8 * i + k < 1000 := a28 c0 i0 (Nat.lt_of_le_of_lt k0 (by decide))
theorem a28b (e : n = i) (i0 : i < 10) (c0 : c < 10) (k0 : k ≤ 4) : c + 1 + 8 * i + k + 1 < 1000 := a28 c0 i0 (Nat.lt_of_le_of_lt (Nat.succ_le_succ k0) (by decide))
theorem a28c (k0 : k ≤ 4) : c + 1 + 8 * i + k + 1 ≤ c + 1 + 8 * i + 8 := Nat.add_le_add_left (Nat.le_trans (Nat.succ_le_succ k0) (by decide)) _
theorem a28d (k0 : k ≤ 5) : c + 1 + 8 * i + k + 1 ≤ c + 1 + 8 * i + 8 := Nat.add_le_add_left (Nat.le_trans (Nat.succ_le_succ k0) (by decide)) _
theorem a28e (q : c + 1 + 8 * i + k + 1 < 1000) : c + 1 + 8 * i + k < 1000 := Nat.lt_of_succ_lt q
theorem a28f : c + 1 + 8 * i + 1 + 1 + 1 + 1 + 1 ≤ c + 1 + 8 * i + 8 := Nat.add_le_add_left (by decide : 5 ≤ 8) _
theorem a28g (p : d < 8) : c + 1 + 8 * (2 + (d : Int) - 0).toNat ≤ c + 100 := by
  show c + 1 + 8 * (2 + d) ≤ c + 100
  rw [Nat.add_assoc]
  exact Nat.add_le_add_left (Nat.le_trans (Nat.add_le_add_left (Nat.mul_le_mul_left 8 (Nat.add_le_add_left (Nat.le_of_lt_succ p) 2)) 1) (by decide)) _
theorem a28h (p : d < 4) (q : i ≤ c + 1 + 10 * (1 + (d : Int) - 0).toNat) : i ≤ c + 100 := by
  refine Nat.le_trans q ?_
  show c + 1 + 10 * (1 + d) ≤ c + 100
  rw [Nat.add_assoc]
  exact Nat.add_le_add_left (Nat.le_trans (Nat.add_le_add_left (Nat.mul_le_mul_left 10 (Nat.add_le_add_left (Nat.le_of_lt_succ p) 1)) 1) (by decide)) _
theorem a28i (p : m < 4) (e : n = (1 + (m : Int) - 0).toNat) : 0 < n ∧ n < 5 := by
  subst e
  show 0 < 1 + m ∧ 1 + m < 5
  rw [Nat.add_comm]
  exact ⟨Nat.succ_pos m, Nat.succ_lt_succ p⟩
theorem a28j (e : n = (1 + (m : Int) - 0).toNat) (p : 0 < n ∧ n < 5) : c + 1 + 10 * i + 2 + (1 + (m : Int) - 0).toNat ≤ c + 1 + 10 * (i + 1) := by
  rw [← e, Nat.add_assoc, Nat.mul_add, ← Nat.add_assoc (c + 1)]
  exact Nat.add_le_add_left (Nat.le_trans (Nat.add_le_add_left (Nat.le_of_lt_succ p.2) 2) (by decide)) _
theorem a28k (p : d < 4) (q : n ≤ (1 + (d : Int) - 0).toNat) : n < 10 := Nat.lt_of_le_of_lt q (Nat.lt_trans (Nat.add_lt_add_left p 1) (by decide))
theorem a28l (p : d < 8) (q : n = (2 + (d : Int) - 0).toNat) : 2 ≤ n := q ▸ Nat.le_add_right 2 d
theorem a28m (q : n = (2 + (d : Int) - 0).toNat) (p : k < n) : k < (2 + (d : Int) - 0).toNat := q ▸ p
theorem a28n (p : m < 4) (q : (j : Int) < 1 + (m : Int) - 0) : j < 4 := Nat.lt_of_lt_of_le (m := 1 + m) (Int.ofNat_lt.mp (by rw [Int.sub_zero] at q; exact q)) (Nat.add_comm m 1 ▸ p)
theorem a28o (p : d < 8) (q : (i : Int) < 2 + (d : Int) - 0) : i < 10 := Nat.lt_of_lt_of_le (m := 2 + d) (Int.ofNat_lt.mp (by rw [Int.sub_zero] at q; exact q)) (Nat.add_le_add_left (Nat.le_of_lt p) 2)
theorem a28p (q : (i : Int) < (n : Int) - 0) : i < n := Int.ofNat_lt.mp (Int.sub_zero (n : Int) ▸ q)
theorem a28q (p : d < 8) : 2 + (d : Int) < 1000 := (Int.ofNat_lt (n := 2 + d) (m := 1000)).mpr (Nat.lt_trans (Nat.add_lt_add_left p 2) (by decide))
theorem a29 (p : n + u ≤ S) (q : l ≤ h) (r : h ≤ n) : min l n + (u + (n - h)) ≤ S := by
  refine Nat.le_trans (Nat.add_le_add_right (Nat.le_trans (Nat.min_le_left _ _) q) _) ?_
  rw [Nat.add_left_comm, Nat.add_sub_cancel' r, Nat.add_comm]
  exact p
theorem a29a (q : l ≤ h) (r : h ≤ n) (p : n + u ≤ S) : min l n + (u + (n - h)) ≤ S + 1 := Nat.le_succ_of_le (a29 p q r)
theorem a29b (g3 : (b : Int) ≤ (v : Int)) (g2 : (a : Int) ≤ (b : Int)) (e1 : v = n) (e2 : u = y) (p : v + u + 1 ≤ M) : min a n + y + (n - b) ≤ M := by
  subst e1; subst e2
  rw [Nat.add_assoc]
  exact a29 (Nat.le_of_succ_le p) (Int.ofNat_le.mp g2) (Int.ofNat_le.mp g3)
theorem a30 (p : m ≤ 2 * M) (q : v = m) (r : 2 * M ≤ S) : v ≤ S := q ▸ Nat.le_trans p r
theorem a34 (q : i ≤ c) : i ≤ c + 1 := Nat.le_succ_of_le q
theorem a34a (q : i + 1 ≤ c) : i ≤ c := Nat.le_of_succ_le q
theorem a34b (q : i < c) : i ≤ c := Nat.le_of_lt q
theorem a34c (q : i ≤ c) : i + 1 ≤ c + 1 := Nat.succ_le_succ q
theorem a34d (q : i < c) : i < c + 1 := Nat.lt_succ_of_lt q
theorem a34e : i < i + 1 := Nat.lt_succ_self i
theorem a34f : 0 < i + 1 := Nat.succ_pos i
theorem a34g (p : L < s) : 0 < s := Nat.lt_of_le_of_lt (Nat.zero_le _) p
theorem a34h (p : a < b) (q : b < c) : a < c := Nat.lt_trans p q
theorem a34i (p : a < b) (q : b ≤ c) : a < c := Nat.lt_of_lt_of_le p q
theorem a34j (p : a ≤ b) (q : b < c) : a < c := Nat.lt_of_le_of_lt p q
theorem a34k (p : a ≤ b) (q : b ≤ c) : a ≤ c := Nat.le_trans p q
theorem a34l (p : a ≤ b) : a ≤ b + j := Nat.le_add_right_of_le p
theorem a34m (p : L + 1 + n < s) : L < s := Nat.lt_of_le_of_lt (Nat.le_trans (Nat.le_succ L) (Nat.le_add_right _ _)) p
theorem a34n (p : L + 1 + n < s) (q : j < n) : L + 1 + j < s := Nat.lt_trans (Nat.add_lt_add_left q _) p
end
end Mine.O
namespace Mine

inductive SK | empty | zwj | zwnj | hidden | glyph | class_ | ligature | base | mark
deriving DecidableEq

inductive At
  | code | glyph | cluster | mask | is_unsafe | lig_id | lig_part | lig_count | split_id | kind | x_advance | y_advance | x_offset | y_offset
  | parent | bond | row | is_backward | last_lig | last_split | flag | mark_set | tables | buffer | gdef | lookups | lookup | depth | steps
  | sets | classes | attach | points | carets
deriving DecidableEq

inductive Cl | info | buffer | lookup | scene | ligature | classdef | gdef
deriving DecidableEq

set_option genCtorIdx false in
inductive Fn
  | init (c : Cl) | next_lig | class_of | glyph_class
  | law_classes | law_draw | law_row | law_sets | law_places | law_part | law_joined | law_due | law_infos | law
  | set_cluster | widened | merge | attach_wanted | class_bit | is_ignored | passes | glyph_tests | fits | is_borne | found_at | input_at
  | is_piece | hold_together | part_count | way_of | tie | tie_behind | tie_all | join | apply_ligature

@[reducible] noncomputable def Fn.ctorIdx (x : Fn) : Nat := Fn.casesOn x (fun _ => nat_lit 0) (nat_lit 1) (nat_lit 2) (nat_lit 3) (nat_lit 4) (nat_lit 5) (nat_lit 6) (nat_lit 7) (nat_lit 8) (nat_lit 9) (nat_lit 10) (nat_lit 11) (nat_lit 12) (nat_lit 13) (nat_lit 14) (nat_lit 15) (nat_lit 16) (nat_lit 17) (nat_lit 18) (nat_lit 19) (nat_lit 20) (nat_lit 21) (nat_lit 22) (nat_lit 23) (nat_lit 24) (nat_lit 25) (nat_lit 26) (nat_lit 27) (nat_lit 28) (nat_lit 29) (nat_lit 30) (nat_lit 31) (nat_lit 32) (nat_lit 33) (nat_lit 34)
inductive Gc | IGNORE_BASES | IGNORE_LIGATURES | IGNORE_MARKS | USE_SET | MARK | BASE_ligature | NO_CLASS | BASE_gdef | COMPONENT | KINDS_IN_INPUT
deriving DecidableEq

inductive Bi | len | abs | min | max | sum | any | dict | list | tuple | int | range
deriving DecidableEq

inductive Mt | append | get | setdefault | glyph_class | class_of | next_lig
deriving DecidableEq

inductive BOp | add | sub | mul | fdiv | mod | band
deriving DecidableEq

inductive COp | eq | ne | lt | le | gt | ge | is | isnot | isin | notin
deriving DecidableEq

set_option genCtorIdx false in
inductive PE
  | none | bool (b : Bool) | int (i : Int) | str (s : SK)
  | var (k : Nat) | gc (g : Gc)
  | bin (op : BOp) (a b : PE) | neg (i : Int)
  | not (a : PE) | band (es : List PE) | bor (es : List PE) | ite (c a b : PE)
  | cmp (op : COp) (a b : PE) | cmp2 (op1 op2 : COp) (a b c : PE)
  | tup (es : List PE) | list (es : List PE) | mlist (es : List PE) | dict (ks : List Int) (vs : List PE) | mdict
  | sub (a i : PE) | slice (a lo hi : PE)
  | attr (a : PE) (n : At)
  | callF (f : Fn) (args : List PE) | callC (c : Cl) (args : List PE) | callB (b : Bi) (args : List PE) | mlistOf (a : PE)
  | meth (a : PE) (m : Mt) (args : List PE)
  | comp (elt : PE) (x : Nat) (iter : PE) | compIf (elt : PE) (x : Nat) (iter cond : PE)
  | frz (n : Nat) (a : PE) | bad

@[reducible] noncomputable def PE.ctorIdx (x : PE) : Nat := PE.casesOn (motive_1 := fun _ => Nat) x (nat_lit 0) (fun _ => nat_lit 1) (fun _ => nat_lit 2) (fun _ => nat_lit 3) (fun _ => nat_lit 4) (fun _ => nat_lit 5) (fun _ _ _ => nat_lit 6) (fun _ => nat_lit 7) (fun _ => nat_lit 8) (fun _ => nat_lit 9) (fun _ => nat_lit 10) (fun _ _ _ => nat_lit 11) (fun _ _ _ => nat_lit 12) (fun _ _ _ _ _ => nat_lit 13) (fun _ => nat_lit 14) (fun _ => nat_lit 15) (fun _ => nat_lit 16) (fun _ _ => nat_lit 17) (nat_lit 18) (fun _ _ => nat_lit 19) (fun _ _ _ => nat_lit 20) (fun _ _ => nat_lit 21) (fun _ _ => nat_lit 22) (fun _ _ => nat_lit 23) (fun _ _ => nat_lit 24) (fun _ => nat_lit 25) (fun _ _ _ => nat_lit 26) (fun _ _ _ => nat_lit 27) (fun _ _ _ _ => nat_lit 28) (fun _ _ => nat_lit 29) (nat_lit 30)
set_option genCtorIdx false in
inductive PS
  | assign (x : Nat) (e : PE) | assignT (xs : List Nat) (e : PE)
  | setAttr (o : PE) (n : At) (e : PE) | setSub (o i e : PE) | setSlice (o lo hi e : PE)
  | ifs (c : PE) (t f : List PS) | whiles (c : PE) (b : List PS) | fors (x : Nat) (it : PE) (b : List PS) | forsT (xs : List Nat) (it : PE) (b : List PS)
  | ret (e : PE) | brk | expr (e : PE) | frz (n : Nat) (x : Nat)

@[reducible] noncomputable def PS.ctorIdx (x : PS) : Nat := PS.casesOn (motive_1 := fun _ => Nat) x (fun _ _ => nat_lit 0) (fun _ _ => nat_lit 1) (fun _ _ _ => nat_lit 2) (fun _ _ _ => nat_lit 3) (fun _ _ _ _ => nat_lit 4) (fun _ _ _ => nat_lit 5) (fun _ _ => nat_lit 6) (fun _ _ _ => nat_lit 7) (fun _ _ _ => nat_lit 8) (fun _ => nat_lit 9) (nat_lit 10) (fun _ => nat_lit 11) (fun _ _ => nat_lit 12)
set_option genCtorIdx false in
inductive PV
  | none | bool (b : Bool) | int (i : Int) | str (s : SK) | ref (i : Nat)
  | tup (vs : List PV) | lst (vs : List PV) | dct (kvs : List (Int × PV)) | inst (c : Cl) (fs : List (At × PV)) | range (lo hi : Int)
deriving Inhabited

@[reducible] noncomputable def PV.ctorIdx (x : PV) : Nat := PV.casesOn (motive_1 := fun _ => Nat) x (nat_lit 0) (fun _ => nat_lit 1) (fun _ => nat_lit 2) (fun _ => nat_lit 3) (fun _ => nat_lit 4) (fun _ => nat_lit 5) (fun _ => nat_lit 6) (fun _ => nat_lit 7) (fun _ _ => nat_lit 8) (fun _ _ => nat_lit 9)
set_option genCtorIdx false in
inductive PObj
  | list (vs : List PV) | dict (kvs : List (Int × PV)) | inst (c : Cl) (fs : List (At × PV))

@[reducible] noncomputable def PObj.ctorIdx (x : PObj) : Nat := PObj.casesOn (motive := fun _ => Nat) x (fun _ => nat_lit 0) (fun _ => nat_lit 1) (fun _ _ => nat_lit 2)
abbrev St := List (Option PObj)
noncomputable def LIM : Nat := 100000
noncomputable def BIG : Nat := 4611686018427387904
noncomputable def fits (k : Int) : Bool := decide (k.natAbs < BIG)
theorem fits_of {k : Int} : fits k = true ↔ -(4611686018427387904 : Int) < k ∧ k < 4611686018427387904 := by
  unfold fits BIG
  rw [decide_eq_true_iff]
  omega

abbrev Env := List (Option PV)
noncomputable def Env.get (ρ : Env) (k : Nat) : Option PV := match ρ[k]? with | some v => v | .none => .none
noncomputable def Env.put (ρ : Env) (k : Nat) (v : PV) : Env := ρ.set k (some v)
noncomputable def Env.putAll (ρ : Env) : List Nat → List PV → Env
  | x :: xs, v :: vs => Env.putAll (ρ.put x v) xs vs
  | _, _ => ρ

section
variable {α β : Type}
noncomputable def on1 (vs : List α) (k : α → Option β) : Option β := match vs with | [v] => k v | _ => .none
noncomputable def on2 (vs : List α) (k : α → α → Option β) : Option β := match vs with | [v, u] => k v u | _ => .none
noncomputable def onInt (v : PV) (k : Int → Option β) : Option β := match v with | .int i => k i | _ => .none
noncomputable def onBool (v : PV) (k : Bool → Option β) : Option β := match v with | .bool i => k i | _ => .none
noncomputable def onStr (v : PV) (k : SK → Option β) : Option β := match v with | .str i => k i | _ => .none
noncomputable def onLst (v : PV) (k : List PV → Option β) : Option β := match v with | .lst i => k i | _ => .none
noncomputable def onTup (v : PV) (k : List PV → Option β) : Option β := match v with | .tup i => k i | _ => .none
noncomputable def onDct (v : PV) (k : List (Int × PV) → Option β) : Option β := match v with | .dct i => k i | _ => .none
noncomputable def onNone (v : PV) (k : Option β) : Option β := match v with | .none => k | _ => .none
theorem no {r : β} {P : Prop} (h : (.none : Option β) = some r) : P := nomatch h
variable {r : β} {v : PV}
theorem on1_some {vs : List α} {k : α → Option β} (h : on1 vs k = some r) : ∃ v, vs = [v] ∧ k v = some r := by
  rcases vs with _ | ⟨v, _ | _⟩
  · exact no h
  · exact ⟨v, rfl, h⟩
  · exact no h
theorem on2_some {vs : List α} {k : α → α → Option β} (h : on2 vs k = some r) : ∃ v u, vs = [v, u] ∧ k v u = some r := by
  rcases vs with _ | ⟨v, _ | ⟨u, _ | _⟩⟩
  · exact no h
  · exact no h
  · exact ⟨v, u, rfl, h⟩
  · exact no h
theorem onInt_some {k : Int → Option β} (h : onInt v k = some r) : ∃ i, v = .int i ∧ k i = some r := by
  cases v with
  | int i => exact ⟨i, rfl, h⟩
  | _ => exact no h
theorem onBool_some {k : Bool → Option β} (h : onBool v k = some r) : ∃ i, v = .bool i ∧ k i = some r := by
  cases v with
  | bool i => exact ⟨i, rfl, h⟩
  | _ => exact no h
theorem onStr_some {k : SK → Option β} (h : onStr v k = some r) : ∃ i, v = .str i ∧ k i = some r := by
  cases v with
  | str i => exact ⟨i, rfl, h⟩
  | _ => exact no h
theorem onLst_some {k : List PV → Option β} (h : onLst v k = some r) : ∃ i, v = .lst i ∧ k i = some r := by
  cases v with
  | lst i => exact ⟨i, rfl, h⟩
  | _ => exact no h
theorem onTup_some {k : List PV → Option β} (h : onTup v k = some r) : ∃ i, v = .tup i ∧ k i = some r := by
  cases v with
  | tup i => exact ⟨i, rfl, h⟩
  | _ => exact no h
theorem onDct_some {k : List (Int × PV) → Option β} (h : onDct v k = some r) : ∃ i, v = .dct i ∧ k i = some r := by
  cases v with
  | dct i => exact ⟨i, rfl, h⟩
  | _ => exact no h
theorem onNone_some {k : Option β} (h : onNone v k = some r) : v = .none ∧ k = some r := by
  cases v with
  | none => exact ⟨rfl, h⟩
  | _ => exact no h
@[elab_as_elim] theorem some_e {P : β → Prop} {a : β} (h : some a = some r) (q : P a) : P r := Option.some.inj h ▸ q
@[elab_as_elim] theorem on1_e {P : List α → Prop} {vs : List α} {k : α → Option β} (h : on1 vs k = some r) (q : ∀ v, k v = some r → P [v]) : P vs := by
  rcases vs with _ | ⟨v, _ | _⟩
  · exact no h
  · exact q v h
  · exact no h
@[elab_as_elim] theorem on2_e {P : List α → Prop} {vs : List α} {k : α → α → Option β} (h : on2 vs k = some r) (q : ∀ v u, k v u = some r → P [v, u]) : P vs := by
  rcases vs with _ | ⟨v, _ | ⟨u, _ | _⟩⟩
  · exact no h
  · exact no h
  · exact q v u h
  · exact no h
@[elab_as_elim] theorem onInt_e {P : PV → Prop} {k : Int → Option β} (h : onInt v k = some r) (q : ∀ i, k i = some r → P (.int i)) : P v := by
  cases v with
  | int i => exact q i h
  | _ => exact no h
@[elab_as_elim] theorem onLst_e {P : PV → Prop} {k : List PV → Option β} (h : onLst v k = some r) (q : ∀ i, k i = some r → P (.lst i)) : P v := by
  cases v with
  | lst i => exact q i h
  | _ => exact no h
noncomputable def onTrue (b : Bool) (k : Option β) : Option β := match b with | true => k | false => .none
theorem onTrue_e {R : Prop} {b : Bool} {k : Option β} (h : onTrue b k = some r) (q : b = true → k = some r → R) : R := by
  cases b with
  | true => exact q rfl h
  | false => exact no h
theorem onTrue_some {b : Bool} {k : Option β} (h : onTrue b k = some r) : b = true ∧ k = some r := by
  cases b with
  | true => exact ⟨rfl, h⟩
  | false => exact no h
end
noncomputable def and2 (x y : Option Bool) : Option Bool := x.bind fun a => y.bind fun b => some (a && b)
theorem and2_some {x y : Option Bool} {r : Bool} (h : and2 x y = some r) : ∃ a b, x = some a ∧ y = some b ∧ (a && b) = r := by
  cases x with
  | none => exact no h
  | some a => cases y with
    | none => exact no h
    | some b => exact ⟨a, b, rfl, rfl, Option.some.inj h⟩

noncomputable def gcVal : Gc → PV
  | .IGNORE_BASES => .int 2 | .IGNORE_LIGATURES => .int 4 | .IGNORE_MARKS => .int 8 | .USE_SET => .int 16 | .MARK => .int 3
  | .BASE_ligature => .int 1 | .NO_CLASS => .int 0 | .BASE_gdef => .int 1 | .COMPONENT => .int 4
  | .KINDS_IN_INPUT => .tup [.str .zwj, .str .hidden]

mutual
noncomputable def pvEq : PV → PV → Option Bool
  | .none, y => onNone y (some true)
  | .int a, y => onInt y fun b => some (a == b)
  | .bool a, y => onBool y fun b => some (a == b)
  | .str a, y => onStr y fun b => some (a == b)
  | .tup a, y => onTup y fun b => pvsEq a b
  | .lst a, y => onLst y fun b => pvsEq a b
  | _, _ => .none
noncomputable def pvsEq : List PV → List PV → Option Bool
  | [], [] => some true
  | [], _ :: _ => some false
  | _ :: _, [] => some false
  | a :: as, b :: bs => and2 (pvEq a b) (pvsEq as bs)
end
noncomputable def kvsEq : List (Int × PV) → List (Int × PV) → Option Bool
  | [], [] => some true
  | [], _ :: _ => .none
  | _ :: _, [] => .none
  | a :: as, b :: bs => onTrue (a.1 == b.1) (and2 (pvEq a.2 b.2) (kvsEq as bs))
noncomputable def flatN : Nat → PV → Bool
  | _, .none => true
  | _, .bool _ => true
  | _, .int _ => true
  | _, .str _ => true
  | n + 1, .tup vs => vs.all (flatN n)
  | n + 1, .lst vs => vs.all (flatN n)
  | _, _ => false
noncomputable def eqG (a b : PV) : Option Bool := match a with
  | .dct x => onDct b fun y => onTrue ((x.all fun p => flatN 6 p.2) && (y.all fun p => flatN 6 p.2)) (kvsEq x y)
  | a => onTrue (flatN 6 a && flatN 6 b) (pvEq a b)
noncomputable def truth : PV → Option Bool
  | .bool b => some b
  | .int i => some (i != 0)
  | _ => .none

noncomputable def mulOk (a b : Int) : Bool := fits a || fits b

noncomputable def addV (a b : PV) : Option PV := match a with
  | .int x => onInt b fun y => some (.int (x + y))
  | .lst x => onLst b fun y => if x.length + y.length < LIM then some (.lst (x ++ y)) else .none
  | .tup x => onTup b fun y => if x.length + y.length < LIM then some (.tup (x ++ y)) else .none
  | _ => .none
noncomputable def mulV (a b : PV) : Option PV := match a with
  | .int x => onInt b fun y => if mulOk x y then some (.int (x * y)) else .none
  | .lst x => on1 x fun v => onInt b fun y => if 0 ≤ y ∧ y < 1000 then some (.lst (List.replicate y.toNat v)) else .none
  | _ => .none
noncomputable def binV : BOp → PV → PV → Option PV
  | .add, a, b => addV a b
  | .sub, a, b => onInt a fun x => onInt b fun y => some (.int (x - y))
  | .mul, a, b => mulV a b
  | .fdiv, a, b => onInt a fun x => onInt b fun y => if y = 0 ∨ ¬ fits y then .none else some (.int (x.fdiv y))
  | .mod, a, b => onInt a fun x => onInt b fun y => if y = 0 then .none else some (.int (x.fmod y))
  | .band, a, b => onInt a fun x => onInt b fun y => if 0 ≤ x ∧ 0 ≤ y then some (.int ((x.toNat &&& y.toNat : Nat) : Int)) else .none

noncomputable def inV (v : PV) : List PV → Option Bool
  | [] => some false
  | x :: xs => (pvEq x v).bind fun a => (inV v xs).bind fun b => some (a || b)

noncomputable def seqItems : PV → Option (List PV)
  | .tup vs => some vs
  | .lst vs => some vs
  | _ => .none

noncomputable def isNoneV : PV → Option Bool
  | .none => some true
  | .lst _ => some false
  | .dct _ => some false
  | _ => .none
noncomputable def inG (a b : PV) : Option Bool := onTrue (flatN 6 a && flatN 6 b) ((seqItems b).bind fun vs => inV a vs)
noncomputable def cmpV : COp → PV → PV → Option Bool
  | .eq, a, b => eqG a b
  | .ne, a, b => (eqG a b).map (!·)
  | .lt, a, b => onInt a fun a => onInt b fun b => some (decide (a < b))
  | .le, a, b => onInt a fun a => onInt b fun b => some (decide (a ≤ b))
  | .gt, a, b => onInt a fun a => onInt b fun b => some (decide (b < a))
  | .ge, a, b => onInt a fun a => onInt b fun b => some (decide (b ≤ a))
  | .is, a, b => onNone b (isNoneV a)
  | .isnot, a, b => onNone b ((isNoneV a).map (!·))
  | .isin, a, b => inG a b
  | .notin, a, b => (inG a b).map (!·)

noncomputable def idx (n : Nat) (k : Int) : Option Nat :=
  if fits k then (if 0 ≤ k then (if k < n then some k.toNat else .none) else if 0 ≤ k + n then some (k + n).toNat else .none) else .none

noncomputable def kvGet (k : Int) : List (Int × PV) → Option PV
  | [] => .none
  | (l, v) :: r => if k = l then some v else kvGet k r

noncomputable def kvPut (k : Int) (v : PV) : List (Int × PV) → List (Int × PV)
  | [] => [(k, v)]
  | (l, x) :: r => if k = l then (l, v) :: r else (l, x) :: kvPut k v r

noncomputable def kvPutAll : List (Int × PV) → List (Int × PV) → List (Int × PV)
  | d, [] => d
  | d, (k, v) :: r => kvPutAll (kvPut k v d) r

noncomputable def clampB (n : Nat) (k : Int) : Nat := if k < 0 then n - (-k).toNat else min k.toNat n

noncomputable def boundL (n : Nat) : PV → Option Nat
  | .none => some 0
  | .int k => if fits k then some (clampB n k) else .none
  | _ => .none
noncomputable def boundH (n : Nat) : PV → Option Nat
  | .none => some n
  | .int k => if fits k then some (clampB n k) else .none
  | _ => .none
noncomputable def sliceL (vs : List PV) (lo hi : PV) : Option (List PV) :=
  (boundL vs.length lo).bind fun a => (boundH vs.length hi).bind fun b => some ((vs.take b).drop a)

noncomputable def fGet (n : At) : List (At × PV) → Option PV
  | [] => .none
  | (m, v) :: r => if n = m then some v else fGet n r
noncomputable def fPut (n : At) (v : PV) : List (At × PV) → List (At × PV)
  | [] => [(n, v)]
  | (m, x) :: r => if n = m then (m, v) :: r else (m, x) :: fPut n v r

noncomputable def intsOf : List PV → Option (List Int)
  | [] => some []
  | v :: r => onInt v fun i => (intsOf r).map (i :: ·)
noncomputable def boolsOf : List PV → Option (List Bool)
  | [] => some []
  | v :: r => onBool v fun i => (boolsOf r).map (i :: ·)
noncomputable def pairsOf : List PV → Option (List (Int × PV))
  | [] => some []
  | p :: r => onTup p fun us => on2 us fun k v => onInt k fun k => (pairsOf r).map ((k, v) :: ·)

noncomputable def minL : List Int → Option Int
  | [] => .none
  | a :: r => some (r.foldl (fun m x => if x < m then x else m) a)

noncomputable def rangeL (lo hi : Int) : List PV := (List.range (hi - lo).toNat).map fun (j : Nat) => .int (lo + j)

noncomputable def minV : List PV → Option PV
  | [a] => onLst a fun vs => (intsOf vs).bind fun ns => (minL ns).bind fun m => some (.int m)
  | [a, b] => onInt a fun a => onInt b fun b => some (.int (if b < a then b else a))
  | _ => .none
noncomputable def dictV : PV → Option PV
  | .dct kvs => some (.dct kvs)
  | .lst vs => (pairsOf vs).bind fun kvs => some (.dct (kvPutAll [] kvs))
  | _ => .none
noncomputable def rangeV : List PV → Option PV
  | [b] => onInt b fun b => onTrue (fits b) (some (.range 0 b))
  | [a, b] => onInt a fun a => onInt b fun b => onTrue (fits a && fits b) (some (.range a b))
  | _ => .none
noncomputable def builtinV : Bi → List PV → Option PV
  | .len, _ => .none
  | .abs, vs => on1 vs fun v => onInt v fun i => some (.int i.natAbs)
  | .min, vs => minV vs
  | .max, vs => on2 vs fun a b => onInt a fun a => onInt b fun b => some (.int (if a < b then b else a))
  | .sum, vs => on1 vs fun v => onLst v fun vs => (intsOf vs).bind fun ns => some (.int (ns.foldl (· + ·) 0))
  | .any, vs => on1 vs fun v => onLst v fun vs => (boolsOf vs).bind fun ns => some (.bool (ns.any id))
  | .dict, vs => on1 vs dictV
  | .list, vs => on1 vs fun v => onLst v fun vs => some (.lst vs)
  | .tuple, vs => on1 vs fun v => onLst v fun vs => some (.tup vs)
  | .int, vs => on1 vs fun v => onInt v fun i => some (.int i)
  | .range, vs => rangeV vs

noncomputable def iterV : PV → Option (List PV)
  | .lst vs => some vs
  | .tup vs => some vs
  | .range lo hi => some (rangeL lo hi)
  | .dct kvs => some (kvs.map fun p => .int p.1)
  | _ => .none

noncomputable def methodOf (c : Cl) : Mt → Option Fn
  | .glyph_class => match c with | .gdef => some .glyph_class | _ => .none
  | .class_of => match c with | .classdef => some .class_of | _ => .none
  | .next_lig => match c with | .buffer => some .next_lig | _ => .none
  | .append => .none | .get => .none | .setdefault => .none

set_option genCtorIdx false in
inductive Fl | next | brk | ret (v : PV)

@[reducible] noncomputable def Fl.ctorIdx (x : Fl) : Nat := Fl.casesOn (motive := fun _ => Nat) x (nat_lit 0) (nat_lit 1) (fun _ => nat_lit 2)
noncomputable def WH : Nat := 200

noncomputable def itemsN (n : Nat) : PV → Option (List PV)
  | .tup vs => if vs.length = n then some vs else .none
  | _ => .none

structure Def where
  slots : Nat
  params : Nat
  dflts : List PV
  body : List PS

noncomputable def bindA (d : Def) (args : List PV) : Option Env :=
  if args.length ≤ d.params ∧ d.params ≤ args.length + d.dflts.length then
    let vs := args ++ d.dflts.drop (d.dflts.length + args.length - d.params)
    some (vs.map some ++ List.replicate (d.slots - d.params) .none)
  else .none

end Mine
set_option maxRecDepth 4000
namespace Mine
noncomputable def d_init_info : Def := { slots := 4, params := 4, dflts := [], body := [(.setAttr (.var 0) .code (.var 1)),
    (.setAttr (.var 0) .glyph (.var 2)),
    (.setAttr (.var 0) .cluster (.var 3)),
    (.setAttr (.var 0) .mask (.int 0)),
    (.setAttr (.var 0) .is_unsafe (.bool false)),
    (.setAttr (.var 0) .lig_id (.int 0)),
    (.setAttr (.var 0) .lig_part (.int 0)),
    (.setAttr (.var 0) .lig_count (.int 0)),
    (.setAttr (.var 0) .split_id (.int 0)),
    (.setAttr (.var 0) .kind (.str .empty)),
    (.setAttr (.var 0) .x_advance (.int 0)),
    (.setAttr (.var 0) .y_advance (.int 0)),
    (.setAttr (.var 0) .x_offset (.int 0)),
    (.setAttr (.var 0) .y_offset (.int 0)),
    (.setAttr (.var 0) .parent (.int 0)),
    (.setAttr (.var 0) .bond (.str .empty))] }
noncomputable def d_init_buffer : Def := { slots := 3, params := 3, dflts := [.bool false], body := [(.setAttr (.var 0) .row (.var 1)),
    (.setAttr (.var 0) .is_backward (.var 2)),
    (.setAttr (.var 0) .last_lig (.int 0)),
    (.setAttr (.var 0) .last_split (.int 0))] }
noncomputable def d_next_lig : Def := { slots := 1, params := 1, dflts := [], body := [(.setAttr (.var 0) .last_lig (.bin .add (.attr (.var 0) .last_lig) (.int 1))),
    (.ret (.attr (.var 0) .last_lig))] }
noncomputable def d_set_cluster : Def := { slots := 2, params := 2, dflts := [], body := [(.ifs (.cmp .ne (.attr (.var 0) .cluster) (.var 1)) [(.setAttr (.var 0) .cluster (.var 1)),
    (.setAttr (.var 0) .is_unsafe (.bool false))] [])] }
noncomputable def d_widened : Def := { slots := 5, params := 3, dflts := [], body := [(.assign 3 (.var 1)),
    (.assign 4 (.var 2)),
    (.whiles (.band [(.cmp .lt (.var 4) (.callB .len [(.var 0)])), (.cmp .eq (.attr (.sub (.var 0) (.var 4)) .cluster) (.attr (.sub (.var 0) (.bin .sub (.var 4) (.int 1))) .cluster))]) [(.assign 4 (.bin .add (.var 4) (.int 1)))]),
    (.whiles (.band [(.cmp .gt (.var 3) (.int 0)), (.cmp .eq (.attr (.sub (.var 0) (.bin .sub (.var 3) (.int 1))) .cluster) (.attr (.sub (.var 0) (.var 3)) .cluster))]) [(.assign 3 (.bin .sub (.var 3) (.int 1)))]),
    (.ret (.tup [(.var 3), (.var 4)]))] }
noncomputable def d_merge : Def := { slots := 8, params := 3, dflts := [], body := [(.ifs (.cmp .lt (.bin .sub (.var 2) (.var 1)) (.int 2)) [(.ret .none)] []),
    (.assign 3 (.callB .min [(.comp (.attr (.var 7) .cluster) 7 (.slice (.attr (.var 0) .row) (.var 1) (.var 2)))])),
    (.assignT [4, 5] (.callF .widened [(.attr (.var 0) .row), (.var 1), (.var 2)])),
    (.fors 6 (.slice (.attr (.var 0) .row) (.var 4) (.var 5)) [(.expr (.callF .set_cluster [(.var 6), (.var 3)]))])] }
noncomputable def d_init_lookup : Def := { slots := 5, params := 5, dflts := [], body := [(.setAttr (.var 0) .kind (.var 1)),
    (.setAttr (.var 0) .flag (.var 2)),
    (.setAttr (.var 0) .mark_set (.var 3)),
    (.setAttr (.var 0) .tables (.var 4))] }
noncomputable def d_init_scene : Def := { slots := 7, params := 7, dflts := [.int 0], body := [(.setAttr (.var 0) .buffer (.var 1)),
    (.setAttr (.var 0) .gdef (.var 2)),
    (.setAttr (.var 0) .lookups (.var 3)),
    (.setAttr (.var 0) .lookup (.var 4)),
    (.setAttr (.var 0) .mask (.var 5)),
    (.setAttr (.var 0) .depth (.var 6)),
    (.setAttr (.var 0) .steps (.list [(.int 0)]))] }
noncomputable def d_attach_wanted : Def := { slots := 1, params := 1, dflts := [], body := [(.ret (.bin .mod (.bin .fdiv (.var 0) (.int 256)) (.int 256)))] }
noncomputable def d_class_bit : Def := { slots := 1, params := 1, dflts := [], body := [(.ret (.meth (.dict [1, 2, 3] [(.gc .IGNORE_BASES), (.gc .IGNORE_LIGATURES), (.gc .IGNORE_MARKS)]) .get [(.var 0), (.int 0)]))] }
noncomputable def d_is_ignored : Def := { slots := 5, params := 3, dflts := [], body := [(.assign 3 (.meth (.var 0) .glyph_class [(.var 2)])),
    (.ifs (.bin .band (.attr (.var 1) .flag) (.callF .class_bit [(.var 3)])) [(.ret (.bool true))] []),
    (.ifs (.cmp .ne (.var 3) (.int 3)) [(.ret (.bool false))] []),
    (.ifs (.bin .band (.attr (.var 1) .flag) (.gc .USE_SET)) [(.ret (.not .bad))] []),
    (.assign 4 (.callF .attach_wanted [(.attr (.var 1) .flag)])),
    (.ret (.band [(.cmp .gt (.var 4) (.int 0)), (.cmp .ne .bad (.var 4))]))] }
noncomputable def d_passes : Def := { slots := 2, params := 2, dflts := [], body := [(.ret (.callF .is_ignored [(.attr (.var 0) .gdef), (.attr (.var 0) .lookup), (.attr (.sub (.attr (.attr (.var 0) .buffer) .row) (.var 1)) .glyph)]))] }
noncomputable def d_glyph_tests : Def := { slots := 2, params := 1, dflts := [], body := [(.ret (.callB .tuple [(.comp (.tup [(.str .glyph), (.var 1)]) 1 (.var 0))]))] }
noncomputable def d_fits : Def := { slots := 2, params := 2, dflts := [], body := [(.ifs (.cmp .eq (.sub (.var 0) (.int 0)) (.str .glyph)) [(.ret (.cmp .eq (.sub (.var 0) (.int 1)) (.var 1)))] []),
    (.ifs (.cmp .eq (.sub (.var 0) (.int 0)) (.str .class_)) [(.ret (.cmp .eq .bad (.sub (.var 0) (.int 2))))] []),
    (.ret .bad)] }
noncomputable def d_is_borne : Def := { slots := 2, params := 2, dflts := [], body := [(.ret (.cmp .ne (.bin .band (.attr (.var 1) .mask) (.attr (.var 0) .mask)) (.int 0)))] }
noncomputable def d_found_at : Def := { slots := 8, params := 6, dflts := [], body := [(.assign 6 (.bin .add (.var 1) (.var 2))),
    (.whiles (.cmp2 .le .lt (.int 0) (.var 6) (.callB .len [(.attr (.attr (.var 0) .buffer) .row)])) [(.ifs (.not (.callF .passes [(.var 0), (.var 6)])) [(.assign 7 (.sub (.attr (.attr (.var 0) .buffer) .row) (.var 6))),
    (.ifs (.band [(.callF .fits [(.var 3), (.attr (.var 7) .glyph)]), (.bor [(.callF .is_borne [(.var 0), (.var 7)]), (.not (.var 5))])]) [(.ret (.var 6))] []),
    (.ifs (.cmp .notin (.attr (.var 7) .kind) (.var 4)) [(.ret (.neg 1))] [])] []),
    (.assign 6 (.bin .add (.var 6) (.var 2)))]),
    (.ret (.neg 1))] }
noncomputable def d_input_at : Def := { slots := 6, params := 3, dflts := [], body := [(.ifs (.not (.callF .fits [(.sub (.var 2) (.int 0)), (.attr (.sub (.attr (.attr (.var 0) .buffer) .row) (.var 1)) .glyph)])) [(.ret .none)] []),
    (.assign 3 (.mlist [(.var 1)])),
    (.fors 4 (.slice (.var 2) (.int 1) .none) [(.assign 5 (.callF .found_at [(.var 0), (.sub (.var 3) (.neg 1)), (.int 1), (.var 4), (.gc .KINDS_IN_INPUT), (.bool true)])),
    (.ifs (.cmp .lt (.var 5) (.int 0)) [(.ret .none)] []),
    (.expr (.meth (.var 3) .append [(.var 5)]))]),
    (.ret (.frz 9 (.var 3)))] }
noncomputable def d_is_piece : Def := { slots := 1, params := 1, dflts := [], body := [(.ret (.band [(.cmp .ne (.attr (.var 0) .lig_id) (.int 0)), (.cmp .ne (.attr (.var 0) .lig_part) (.int 0))]))] }
noncomputable def d_hold_together : Def := { slots := 5, params := 2, dflts := [], body := [(.assign 2 (.sub (.var 0) (.sub (.var 1) (.int 0)))),
    (.fors 3 (.slice (.var 1) (.int 1) .none) [(.assign 4 (.sub (.var 0) (.var 3))),
    (.ifs (.callF .is_piece [(.var 2)]) [(.ifs (.cmp .ne (.tup [(.attr (.var 4) .lig_id), (.attr (.var 4) .lig_part)]) (.tup [(.attr (.var 2) .lig_id), (.attr (.var 2) .lig_part)])) [(.ret (.bool false))] [])] [(.ifs (.band [(.callF .is_piece [(.var 4)]), (.cmp .ne (.attr (.var 4) .lig_id) (.attr (.var 2) .lig_id))]) [(.ret (.bool false))] [])])]),
    (.ret (.bool true))] }
noncomputable def d_init_ligature : Def := { slots := 2, params := 2, dflts := [], body := [(.setAttr (.var 0) .sets (.var 1))] }
noncomputable def d_part_count : Def := { slots := 1, params := 1, dflts := [], body := [(.ret (.callB .max [(.attr (.var 0) .lig_count), (.int 1)]))] }
noncomputable def d_way_of : Def := { slots := 3, params := 2, dflts := [], body := [(.ifs (.cmp .ne (.compIf (.var 2) 2 (.slice (.var 1) (.int 1) .none) (.cmp .ne (.meth (.var 0) .glyph_class [(.var 2)]) (.gc .MARK))) (.list [])) [(.ret (.str .ligature))] []),
    (.ret (.meth (.dict [1, 3] [(.str .base), (.str .mark)]) .get [(.meth (.var 0) .glyph_class [(.sub (.var 1) (.int 0))]), (.str .ligature)]))] }
noncomputable def d_tie : Def := { slots := 5, params := 4, dflts := [], body := [(.assign 4 (.ite (.cmp .gt (.attr (.var 0) .lig_part) (.int 0)) (.attr (.var 0) .lig_part) (.var 3))),
    (.setAttr (.var 0) .lig_id (.var 1)),
    (.setAttr (.var 0) .lig_part (.bin .add (.var 2) (.callB .min [(.var 4), (.var 3)]))),
    (.setAttr (.var 0) .lig_count (.int 0))] }
noncomputable def d_tie_behind : Def := { slots := 7, params := 6, dflts := [], body := [(.assign 6 (.var 1)),
    (.whiles (.band [(.cmp .gt (.var 2) (.int 0)), (.cmp .lt (.var 6) (.callB .len [(.var 0)])), (.cmp .eq (.attr (.sub (.var 0) (.var 6)) .lig_id) (.var 2)), (.cmp .gt (.attr (.sub (.var 0) (.var 6)) .lig_part) (.int 0))]) [(.expr (.callF .tie [(.sub (.var 0) (.var 6)), (.var 3), (.var 4), (.var 5)])),
    (.assign 6 (.bin .add (.var 6) (.int 1)))])] }
noncomputable def d_tie_all : Def := { slots := 10, params := 4, dflts := [], body := [(.assign 4 (.sub (.var 0) (.sub (.var 1) (.int 0)))),
    (.assignT [5, 6, 7] (.tup [(.int 0), (.callF .part_count [(.var 4)]), (.attr (.var 4) .lig_id)])),
    (.fors 8 (.callB .range [(.int 1), (.callB .len [(.var 1)])]) [(.ifs (.cmp .eq (.var 2) (.str .ligature)) [(.fors 9 (.callB .range [(.bin .add (.sub (.var 1) (.bin .sub (.var 8) (.int 1))) (.int 1)), (.sub (.var 1) (.var 8))]) [(.expr (.callF .tie [(.sub (.var 0) (.var 9)), (.var 3), (.var 5), (.var 6)]))])] []),
    (.assign 4 (.sub (.var 0) (.sub (.var 1) (.var 8)))),
    (.assignT [5, 6, 7] (.tup [(.bin .add (.var 5) (.var 6)), (.callF .part_count [(.var 4)]), (.attr (.var 4) .lig_id)]))]),
    (.ifs (.cmp .ne (.var 2) (.str .mark)) [(.expr (.callF .tie_behind [(.var 0), (.bin .add (.sub (.var 1) (.neg 1)) (.int 1)), (.var 7), (.var 3), (.var 5), (.var 6)]))] []),
    (.ret (.bin .add (.var 5) (.var 6)))] }
noncomputable def d_join : Def := { slots := 12, params := 3, dflts := [], body := [(.assign 3 (.attr (.var 0) .buffer)),
    (.assign 4 (.attr (.var 3) .row)),
    (.assign 5 (.callF .way_of [(.attr (.var 0) .gdef), (.comp (.attr (.sub (.var 4) (.var 9)) .glyph) 9 (.var 1))])),
    (.expr (.callF .merge [(.var 3), (.sub (.var 1) (.int 0)), (.bin .add (.sub (.var 1) (.neg 1)) (.int 1))])),
    (.assign 6 (.ite (.cmp .eq (.var 5) (.str .ligature)) (.meth (.var 3) .next_lig []) (.int 0))),
    (.assign 7 (.callF .tie_all [(.var 4), (.var 1), (.var 5), (.var 6)])),
    (.assign 8 (.sub (.var 4) (.sub (.var 1) (.int 0)))),
    (.setAttr (.var 8) .glyph (.var 2)),
    (.setAttr (.var 8) .split_id (.int 0)),
    (.setAttr (.var 8) .is_unsafe (.cmp .ne (.compIf (.var 10) 10 (.var 1) (.attr (.sub (.var 4) (.var 10)) .is_unsafe)) (.list []))),
    (.ifs (.cmp .eq (.var 5) (.str .ligature)) [(.setAttr (.var 8) .lig_id (.var 6)),
    (.setAttr (.var 8) .lig_part (.int 0)),
    (.setAttr (.var 8) .lig_count (.var 7))] []),
    (.setSlice (.attr (.var 3) .row) (.sub (.var 1) (.int 0)) (.bin .add (.sub (.var 1) (.neg 1)) (.int 1)) (.compIf (.sub (.var 4) (.var 11)) 11 (.callB .range [(.sub (.var 1) (.int 0)), (.bin .add (.sub (.var 1) (.neg 1)) (.int 1))]) (.bor [(.cmp .eq (.var 11) (.sub (.var 1) (.int 0))), (.cmp .notin (.var 11) (.var 1))])))] }
noncomputable def d_apply_ligature : Def := { slots := 8, params := 3, dflts := [], body := [(.assign 3 (.attr (.attr (.var 0) .buffer) .row)),
    (.assign 4 (.attr (.sub (.var 3) (.var 2)) .glyph)),
    (.forsT [5, 6] (.meth (.attr (.var 1) .sets) .get [(.var 4), (.list [])]) [(.ifs (.cmp .eq (.var 5) (.tup [])) [(.setAttr (.sub (.var 3) (.var 2)) .glyph (.var 6)),
    (.ret (.bin .add (.var 2) (.int 1)))] []),
    (.assign 7 (.callF .input_at [(.var 0), (.var 2), (.callF .glyph_tests [(.bin .add (.tup [(.var 4)]) (.var 5))])])),
    (.ifs (.band [(.cmp .isnot (.var 7) .none), (.callF .hold_together [(.var 3), (.var 7)])]) [(.expr (.callF .join [(.var 0), (.var 7), (.var 6)])),
    (.ret (.bin .sub (.bin .add (.sub (.var 7) (.neg 1)) (.int 1)) (.callB .len [(.var 5)])))] [])]),
    (.ret (.neg 1))] }
noncomputable def d_init_classdef : Def := { slots := 2, params := 2, dflts := [], body := [(.setAttr (.var 0) .classes (.var 1))] }
noncomputable def d_class_of : Def := { slots := 2, params := 2, dflts := [], body := [(.ret (.meth (.attr (.var 0) .classes) .get [(.var 1), (.int 0)]))] }
noncomputable def d_init_gdef : Def := { slots := 6, params := 6, dflts := [.none, .none], body := [(.setAttr (.var 0) .classes (.var 1)),
    (.setAttr (.var 0) .attach (.var 2)),
    (.setAttr (.var 0) .sets (.var 3)),
    (.setAttr (.var 0) .points (.ite (.cmp .is (.var 4) .none) (.dict [] []) (.var 4))),
    (.setAttr (.var 0) .carets (.ite (.cmp .is (.var 5) .none) (.dict [] []) (.var 5)))] }
noncomputable def d_glyph_class : Def := { slots := 3, params := 2, dflts := [], body := [(.assign 2 (.meth (.attr (.var 0) .classes) .class_of [(.var 1)])),
    (.ret (.ite (.cmp2 .le .le (.gc .BASE_gdef) (.var 2) (.gc .COMPONENT)) (.var 2) (.gc .NO_CLASS)))] }
noncomputable def d_law_classes : Def := { slots := 0, params := 0, dflts := [], body := [(.ret (.dict [1, 2, 4, 5, 6] [(.int 1), (.int 1), (.int 2), (.int 3), (.int 3)]))] }
noncomputable def d_law_draw : Def := { slots := 4, params := 2, dflts := [], body := [(.ifs (.cmp .eq (.sub (.var 0) (.int 2)) (.int 0)) [(.assign 2 (.sub (.sub (.var 0) (.int 0)) (.bin .mod (.sub (.var 0) (.int 1)) (.callB .len [(.sub (.var 0) (.int 0))])))),
    (.setSub (.var 0) (.int 1) (.bin .add (.sub (.var 0) (.int 1)) (.int 1))),
    (.setSub (.var 0) (.int 2) (.bin .add (.bin .add (.bin .add (.bin .mul (.int 2) (.callB .abs [(.var 2)])) (.ite (.cmp .lt (.var 2) (.int 0)) (.int 1) (.int 0))) (.bin .mul (.bin .mul (.int 7919) (.sub (.var 0) (.int 1))) (.sub (.var 0) (.int 1)))) (.int 1)))] []),
    (.assign 3 (.bin .mod (.sub (.var 0) (.int 2)) (.var 1))),
    (.setSub (.var 0) (.int 2) (.bin .fdiv (.sub (.var 0) (.int 2)) (.var 1))),
    (.ret (.var 3))] }
noncomputable def d_law_row : Def := { slots := 11, params := 1, dflts := [], body := [(.assign 1 (.mlist [])),
    (.assign 2 (.int 0)),
    (.assign 3 (.int 0)),
    (.fors 4 (.callB .range [(.bin .add (.int 2) (.callF .law_draw [(.var 0), (.int 8)]))]) [(.assign 5 (.sub (.tup [(.int 1), (.int 2), (.int 3), (.int 4), (.int 5), (.int 6), (.int 4), (.int 5)]) (.callF .law_draw [(.var 0), (.int 8)]))),
    (.assign 2 (.bin .add (.var 2) (.sub (.tup [(.int 0), (.int 1), (.int 1), (.int 2)]) (.callF .law_draw [(.var 0), (.int 4)])))),
    (.assign 6 (.callF .law_draw [(.var 0), (.int 9)])),
    (.assignT [7, 8, 9] (.tup [(.int 0), (.int 0), (.int 0)])),
    (.ifs (.cmp .eq (.var 5) (.int 4)) [(.assignT [7, 9] (.tup [(.bin .add (.int 1) (.callF .law_draw [(.var 0), (.int 2)])), (.bin .add (.int 2) (.callF .law_draw [(.var 0), (.int 2)]))]))] [(.assign 7 (.ite (.cmp .gt (.var 5) (.int 4)) (.sub (.tup [(.var 3), (.int 0), (.int 1), (.var 3), (.int 2)]) (.callF .law_draw [(.var 0), (.int 5)])) (.int 0))),
    (.ifs (.bor [(.cmp .gt (.var 7) (.int 0)), (.cmp .eq (.callF .law_draw [(.var 0), (.int 2)]) (.int 1))]) [(.assign 8 (.bin .add (.int 1) (.callF .law_draw [(.var 0), (.int 3)])))] [])]),
    (.assign 3 (.ite (.cmp .gt (.var 7) (.int 0)) (.var 7) (.var 3))),
    (.assign 10 (.meth (.dict [1, 2, 4] [(.str .zwj), (.str .zwnj), (.str .hidden)]) .get [(.var 6), (.str .empty)])),
    (.expr (.meth (.var 1) .append [(.list [(.var 5), (.var 2), (.ite (.cmp .eq (.var 6) (.int 0)) (.int 2) (.int 3)), (.var 10), (.var 7), (.var 8), (.var 9), (.cmp .eq (.var 6) (.int 3)), (.bin .fdiv (.var 6) (.int 4))])]))]),
    (.ret (.frz 9 (.var 1)))] }
noncomputable def d_law_sets : Def := { slots := 8, params := 2, dflts := [], body := [(.assign 2 .mdict),
    (.fors 3 (.callB .range [(.bin .add (.int 1) (.callF .law_draw [(.var 0), (.int 4)]))]) [(.assign 4 (.callF .law_draw [(.var 0), (.callB .len [(.var 1)])])),
    (.assign 5 (.mlist [])),
    (.fors 6 (.callB .range [(.bin .add (.int 1) (.callF .law_draw [(.var 0), (.int 4)]))]) [(.assign 7 (.bin .add (.bin .add (.var 4) (.var 6)) (.ite (.band [(.cmp .gt (.var 6) (.int 0)), (.cmp .eq (.callF .law_draw [(.var 0), (.int 4)]) (.int 0))]) (.int 1) (.int 0)))),
    (.expr (.meth (.var 5) .append [(.sub (.sub (.var 1) (.bin .mod (.var 7) (.callB .len [(.var 1)]))) (.int 0))]))]),
    (.expr (.meth (.meth (.var 2) .setdefault [(.sub (.var 5) (.int 0)), (.mlist [])]) .append [(.tup [(.callB .tuple [(.slice (.var 5) (.int 1) .none)]), (.bin .add (.int 10) (.var 3))])]))]),
    (.ret (.frz 9 (.var 2)))] }
noncomputable def d_law_places : Def := { slots := 11, params := 4, dflts := [], body := [(.assign 4 (.mlist [(.var 1)])),
    (.assign 5 (.var 1)),
    (.fors 6 (.var 2) [(.assign 5 (.bin .add (.var 5) (.int 1))),
    (.whiles (.cmp .lt (.var 5) (.callB .len [(.var 0)])) [(.assign 7 (.band [(.var 3), (.cmp .eq (.meth (.callF .law_classes []) .get [(.sub (.sub (.var 0) (.var 5)) (.int 0)), (.int 0)]) (.int 3))])),
    (.ifs (.band [(.not (.var 7)), (.cmp .eq (.sub (.sub (.var 0) (.var 5)) (.int 0)) (.var 6)), (.cmp .eq (.bin .mod (.sub (.sub (.var 0) (.var 5)) (.int 2)) (.int 2)) (.int 1))]) [.brk] []),
    (.ifs (.band [(.not (.var 7)), (.cmp .notin (.sub (.sub (.var 0) (.var 5)) (.int 3)) (.tup [(.str .zwj), (.str .hidden)]))]) [(.ret .none)] []),
    (.assign 5 (.bin .add (.var 5) (.int 1)))]),
    (.ifs (.cmp .ge (.var 5) (.callB .len [(.var 0)])) [(.ret .none)] []),
    (.expr (.meth (.var 4) .append [(.var 5)]))]),
    (.frz 9 4),
    (.assign 8 (.comp (.ite (.band [(.cmp .gt (.sub (.sub (.var 0) (.var 10)) (.int 4)) (.int 0)), (.cmp .gt (.sub (.sub (.var 0) (.var 10)) (.int 5)) (.int 0))]) (.tup [(.sub (.sub (.var 0) (.var 10)) (.int 4)), (.sub (.sub (.var 0) (.var 10)) (.int 5))]) (.tup [(.int 0), (.int 0)])) 10 (.var 4))),
    (.fors 9 (.slice (.var 8) (.int 1) .none) [(.ifs (.band [(.cmp .ne (.sub (.var 8) (.int 0)) (.tup [(.int 0), (.int 0)])), (.cmp .ne (.var 9) (.sub (.var 8) (.int 0)))]) [(.ret .none)] []),
    (.ifs (.band [(.cmp .eq (.sub (.var 8) (.int 0)) (.tup [(.int 0), (.int 0)])), (.cmp .ne (.var 9) (.tup [(.int 0), (.int 0)])), (.cmp .ne (.sub (.var 9) (.int 0)) (.sub (.sub (.var 0) (.var 1)) (.int 4)))]) [(.ret .none)] [])]),
    (.ret (.var 4))] }
noncomputable def d_law_part : Def := { slots := 3, params := 3, dflts := [], body := [(.ret (.bin .add (.var 1) (.ite (.cmp .gt (.sub (.var 0) (.int 5)) (.int 0)) (.callB .min [(.sub (.var 0) (.int 5)), (.var 2)]) (.var 2))))] }
noncomputable def d_law_joined : Def := { slots := 23, params := 4, dflts := [], body := [(.assign 4 (.comp (.meth (.callF .law_classes []) .get [(.sub (.sub (.var 0) (.var 17)) (.int 0)), (.int 0)]) 17 (.var 1))),
    (.assign 5 (.not (.band [(.cmp .isin (.sub (.var 4) (.int 0)) (.tup [(.int 1), (.int 3)])), (.cmp .eq (.slice (.var 4) (.int 1) .none) (.bin .mul (.list [(.int 3)]) (.bin .sub (.callB .len [(.var 4)]) (.int 1))))]))),
    (.assign 6 (.comp (.callB .max [(.sub (.sub (.var 0) (.var 18)) (.int 6)), (.int 1)]) 18 (.var 1))),
    (.assignT [7, 8] (.tup [(.sub (.var 1) (.int 0)), (.sub (.var 1) (.neg 1))])),
    (.assign 9 (.callB .min [(.comp (.sub (.var 19) (.int 1)) 19 (.slice (.var 0) (.var 7) (.bin .add (.var 8) (.int 1))))])),
    (.assignT [10, 11] (.tup [(.var 7), (.bin .add (.var 8) (.int 1))])),
    (.whiles (.band [(.cmp .gt (.var 10) (.int 0)), (.cmp .eq (.sub (.sub (.var 0) (.bin .sub (.var 10) (.int 1))) (.int 1)) (.sub (.sub (.var 0) (.var 7)) (.int 1)))]) [(.assign 10 (.bin .sub (.var 10) (.int 1)))]),
    (.whiles (.band [(.cmp .lt (.var 11) (.callB .len [(.var 0)])), (.cmp .eq (.sub (.sub (.var 0) (.var 11)) (.int 1)) (.sub (.sub (.var 0) (.var 8)) (.int 1)))]) [(.assign 11 (.bin .add (.var 11) (.int 1)))]),
    (.assign 12 (.mlist [])),
    (.fors 13 (.callB .range [(.callB .len [(.var 0)])]) [(.assign 14 (.mlistOf (.sub (.var 0) (.var 13)))),
    (.ifs (.cmp2 .le .lt (.var 10) (.var 13) (.var 11)) [(.setSub (.var 14) (.int 7) (.band [(.sub (.var 14) (.int 7)), (.cmp .eq (.sub (.var 14) (.int 1)) (.var 9))])),
    (.setSub (.var 14) (.int 1) (.var 9))] []),
    (.assign 15 (.callB .len [(.compIf (.var 20) 20 (.var 1) (.cmp .le (.var 20) (.var 13)))])),
    (.ifs (.band [(.cmp2 .lt .lt (.var 7) (.var 13) (.var 8)), (.cmp .notin (.var 13) (.var 1)), (.var 5)]) [(.setSlice (.var 14) (.int 4) (.int 7) (.list [(.var 3), (.callF .law_part [(.sub (.var 0) (.var 13)), (.callB .sum [(.slice (.var 6) .none (.bin .sub (.var 15) (.int 1)))]), (.sub (.var 6) (.bin .sub (.var 15) (.int 1)))]), (.int 0)]))] []),
    (.expr (.meth (.var 12) .append [(.var 14)]))]),
    (.assign 13 (.bin .add (.var 8) (.int 1))),
    (.assign 16 (.sub (.sub (.var 0) (.var 8)) (.int 4))),
    (.whiles (.band [(.bor [(.var 5), (.cmp .eq (.sub (.var 4) (.int 0)) (.int 1))]), (.cmp .gt (.var 16) (.int 0)), (.cmp .lt (.var 13) (.callB .len [(.var 0)])), (.cmp .eq (.sub (.sub (.var 0) (.var 13)) (.int 4)) (.var 16)), (.cmp .gt (.sub (.sub (.var 0) (.var 13)) (.int 5)) (.int 0))]) [(.setSlice (.sub (.var 12) (.var 13)) (.int 4) (.int 7) (.list [(.ite (.var 5) (.var 3) (.int 0)), (.callF .law_part [(.sub (.var 0) (.var 13)), (.callB .sum [(.slice (.var 6) .none (.neg 1))]), (.sub (.var 6) (.neg 1))]), (.int 0)])),
    (.assign 13 (.bin .add (.var 13) (.int 1)))]),
    (.setSub (.sub (.var 12) (.var 7)) (.int 0) (.var 2)),
    (.setSub (.sub (.var 12) (.var 7)) (.int 8) (.int 0)),
    (.setSub (.sub (.var 12) (.var 7)) (.int 7) (.callB .any [(.comp (.sub (.sub (.var 12) (.var 21)) (.int 7)) 21 (.var 1))])),
    (.ifs (.var 5) [(.setSlice (.sub (.var 12) (.var 7)) (.int 4) (.int 7) (.list [(.var 3), (.int 0), (.callB .sum [(.var 6)])]))] []),
    (.ret (.tup [(.frz 9 (.compIf (.sub (.var 12) (.var 22)) 22 (.callB .range [(.callB .len [(.var 12)])]) (.bor [(.cmp .eq (.var 22) (.var 7)), (.cmp .notin (.var 22) (.var 1))]))), (.var 5)]))] }
noncomputable def d_law_due : Def := { slots := 11, params := 5, dflts := [], body := [(.forsT [5, 6] (.meth (.var 1) .get [(.sub (.sub (.var 0) (.var 2)) (.int 0)), (.list [])]) [(.ifs (.cmp .eq (.var 5) (.tup [])) [(.assign 7 (.comp (.mlistOf (.var 10)) 10 (.var 0))),
    (.setSub (.sub (.var 7) (.var 2)) (.int 0) (.var 6)),
    (.ret (.tup [(.frz 9 (.var 7)), (.bin .add (.var 2) (.int 1)), (.bin .sub (.var 4) (.int 1))]))] []),
    (.assign 8 (.callF .law_places [(.var 0), (.var 2), (.var 5), (.var 3)])),
    (.ifs (.cmp .isnot (.var 8) .none) [(.assignT [7, 9] (.callF .law_joined [(.var 0), (.var 8), (.var 6), (.var 4)])),
    (.ret (.tup [(.var 7), (.bin .sub (.bin .add (.sub (.var 8) (.neg 1)) (.int 1)) (.callB .len [(.var 5)])), (.ite (.var 9) (.var 4) (.bin .sub (.var 4) (.int 1)))]))] [])]),
    (.ret (.tup [(.var 0), (.neg 1), (.bin .sub (.var 4) (.int 1))]))] }
noncomputable def d_law_infos : Def := { slots := 4, params := 1, dflts := [], body := [(.assign 1 (.mlist [])),
    (.fors 2 (.callB .range [(.callB .len [(.var 0)])]) [(.assign 3 (.callC .info [(.bin .add (.int 1000) (.var 2)), (.sub (.sub (.var 0) (.var 2)) (.int 0)), (.sub (.sub (.var 0) (.var 2)) (.int 1))])),
    (.setAttr (.var 3) .mask (.sub (.sub (.var 0) (.var 2)) (.int 2))),
    (.setAttr (.var 3) .kind (.sub (.sub (.var 0) (.var 2)) (.int 3))),
    (.setAttr (.var 3) .lig_id (.sub (.sub (.var 0) (.var 2)) (.int 4))),
    (.setAttr (.var 3) .lig_part (.sub (.sub (.var 0) (.var 2)) (.int 5))),
    (.setAttr (.var 3) .lig_count (.sub (.sub (.var 0) (.var 2)) (.int 6))),
    (.setAttr (.var 3) .is_unsafe (.sub (.sub (.var 0) (.var 2)) (.int 7))),
    (.setAttr (.var 3) .split_id (.sub (.sub (.var 0) (.var 2)) (.int 8))),
    (.expr (.meth (.var 1) .append [(.var 3)]))]),
    (.ret (.var 1))] }
noncomputable def d_law : Def := { slots := 19, params := 1, dflts := [], body := [(.assign 1 (.mlist [(.bin .add (.comp (.callB .int [(.var 16)]) 16 (.slice (.var 0) .none (.int 40))) (.list [(.int 31), (.int 4)])), (.int 0), (.int 0)])),
    (.assign 2 (.callF .law_row [(.var 1)])),
    (.assign 3 (.callF .law_sets [(.var 1), (.var 2)])),
    (.assign 4 (.cmp .eq (.callF .law_draw [(.var 1), (.int 2)]) (.int 0))),
    (.assign 5 (.bin .add (.int 2) (.callF .law_draw [(.var 1), (.int 3)]))),
    (.assign 6 (.frz 9 (.callC .gdef [(.callC .classdef [(.callB .dict [(.callF .law_classes [])])]), (.callC .classdef [(.dict [] [])]), (.list [])]))),
    (.assign 7 (.frz 9 (.callC .lookup [(.str .ligature), (.ite (.var 4) (.gc .IGNORE_MARKS) (.int 0)), (.int 0), (.list [])]))),
    (.assign 8 (.frz 9 (.callC .ligature [(.callB .dict [(.comp (.tup [(.var 17), (.callB .list [(.sub (.var 3) (.var 17))])]) 17 (.var 3))])]))),
    (.fors 9 (.callB .range [(.callB .len [(.var 2)])]) [(.assign 10 (.callC .buffer [(.callF .law_infos [(.var 2)])])),
    (.setAttr (.var 10) .last_lig (.var 5)),
    (.assignT [11, 12, 13] (.callF .law_due [(.var 2), (.var 3), (.var 9), (.var 4), (.bin .add (.var 5) (.int 1))])),
    (.assign 14 (.callF .apply_ligature [(.frz 1 (.callC .scene [(.var 10), (.var 6), (.list [(.var 7)]), (.var 7), (.int 1)])), (.var 8), (.var 9)])),
    (.assign 15 (.comp (.list [(.attr (.var 18) .glyph), (.attr (.var 18) .cluster), (.attr (.var 18) .mask), (.attr (.var 18) .kind), (.attr (.var 18) .lig_id), (.attr (.var 18) .lig_part), (.attr (.var 18) .lig_count), (.attr (.var 18) .is_unsafe), (.attr (.var 18) .split_id)]) 18 (.frz 9 (.attr (.var 10) .row)))),
    (.ifs (.bor [(.cmp .ne (.var 14) (.var 12)), (.cmp .ne (.var 15) (.var 11)), (.cmp .ne (.attr (.var 10) .last_lig) (.var 13))]) [(.ret (.bool false))] [])]),
    (.ret (.cmp .eq (.attr (.var 8) .sets) (.var 3)))] }
noncomputable def D : Fn → Def
  | .init .info => d_init_info
  | .init .buffer => d_init_buffer
  | .next_lig => d_next_lig
  | .set_cluster => d_set_cluster
  | .widened => d_widened
  | .merge => d_merge
  | .init .lookup => d_init_lookup
  | .init .scene => d_init_scene
  | .attach_wanted => d_attach_wanted
  | .class_bit => d_class_bit
  | .is_ignored => d_is_ignored
  | .passes => d_passes
  | .glyph_tests => d_glyph_tests
  | .fits => d_fits
  | .is_borne => d_is_borne
  | .found_at => d_found_at
  | .input_at => d_input_at
  | .is_piece => d_is_piece
  | .hold_together => d_hold_together
  | .init .ligature => d_init_ligature
  | .part_count => d_part_count
  | .way_of => d_way_of
  | .tie => d_tie
  | .tie_behind => d_tie_behind
  | .tie_all => d_tie_all
  | .join => d_join
  | .apply_ligature => d_apply_ligature
  | .init .classdef => d_init_classdef
  | .class_of => d_class_of
  | .init .gdef => d_init_gdef
  | .glyph_class => d_glyph_class
  | .law_classes => d_law_classes
  | .law_draw => d_law_draw
  | .law_row => d_law_row
  | .law_sets => d_law_sets
  | .law_places => d_law_places
  | .law_part => d_law_part
  | .law_joined => d_law_joined
  | .law_due => d_law_due
  | .law_infos => d_law_infos
  | .law => d_law
noncomputable def slotNames : Fn → List (String × Nat)
  | .init .info => [("self", 0), ("code", 1), ("glyph", 2), ("cluster", 3)]
  | .init .buffer => [("self", 0), ("infos", 1), ("is_backward", 2)]
  | .next_lig => [("self", 0)]
  | .set_cluster => [("info", 0), ("cluster", 1)]
  | .widened => [("row", 0), ("begin", 1), ("end", 2), ("first", 3), ("behind", 4)]
  | .merge => [("buffer", 0), ("begin", 1), ("end", 2), ("least_cluster", 3), ("first", 4), ("behind", 5), ("info", 6)]
  | .init .lookup => [("self", 0), ("kind", 1), ("flag", 2), ("mark_set", 3), ("tables", 4)]
  | .init .scene => [("self", 0), ("buffer", 1), ("gdef", 2), ("lookups", 3), ("lookup", 4), ("mask", 5), ("depth", 6)]
  | .attach_wanted => [("flag", 0)]
  | .class_bit => [("number", 0)]
  | .is_ignored => [("gdef", 0), ("lookup", 1), ("glyph", 2), ("number", 3), ("wanted", 4)]
  | .passes => [("scene", 0), ("at", 1)]
  | .glyph_tests => [("glyphs", 0)]
  | .fits => [("test", 0), ("glyph", 1)]
  | .is_borne => [("scene", 0), ("info", 1)]
  | .found_at => [("scene", 0), ("at", 1), ("step", 2), ("test", 3), ("kinds", 4), ("is_input", 5), ("here", 6), ("info", 7)]
  | .input_at => [("scene", 0), ("at", 1), ("tests", 2), ("found", 3), ("test", 4), ("here", 5)]
  | .is_piece => [("info", 0)]
  | .hold_together => [("row", 0), ("positions", 1), ("first", 2), ("at", 3), ("other", 4)]
  | .init .ligature => [("self", 0), ("sets", 1)]
  | .part_count => [("info", 0)]
  | .way_of => [("gdef", 0), ("glyphs", 1)]
  | .tie => [("info", 0), ("lig_id", 1), ("ahead", 2), ("count", 3), ("part", 4)]
  | .tie_behind => [("row", 0), ("at", 1), ("old_id", 2), ("lig_id", 3), ("ahead", 4), ("count", 5), ("spot", 6)]
  | .tie_all => [("row", 0), ("places", 1), ("way", 2), ("lig_id", 3), ("last", 4), ("ahead", 5), ("count", 6), ("old_id", 7), ("spot", 8), ("passed", 9)]
  | .join => [("scene", 0), ("places", 1), ("ligature", 2), ("buffer", 3), ("row", 4), ("way", 5), ("lig_id", 6), ("total", 7), ("first", 8)]
  | .apply_ligature => [("scene", 0), ("table", 1), ("at", 2), ("row", 3), ("first", 4), ("rest", 5), ("ligature", 6), ("places", 7)]
  | .init .classdef => [("self", 0), ("classes", 1)]
  | .class_of => [("self", 0), ("glyph", 1)]
  | .init .gdef => [("self", 0), ("classes", 1), ("attach", 2), ("sets", 3), ("points", 4), ("carets", 5)]
  | .glyph_class => [("self", 0), ("glyph", 1), ("number", 2)]
  | .law_classes => []
  | .law_draw => [("pen", 0), ("many", 1), ("cell", 2), ("digit", 3)]
  | .law_row => [("pen", 0), ("row", 1), ("cluster", 2), ("held", 3), ("place", 4), ("glyph", 5), ("way", 6), ("lig_id", 7), ("part", 8), ("count", 9), ("kind", 10)]
  | .law_sets => [("pen", 0), ("row", 1), ("sets", 2), ("turn", 3), ("start", 4), ("glyphs", 5), ("place", 6), ("spot", 7)]
  | .law_places => [("row", 0), ("at", 1), ("rest", 2), ("is_passing", 3), ("places", 4), ("spot", 5), ("glyph", 6), ("is_passed", 7), ("pieces", 8), ("piece", 9)]
  | .law_part => [("info", 0), ("ahead", 1), ("count", 2)]
  | .law_joined => [("row", 0), ("places", 1), ("ligature", 2), ("fresh", 3), ("classes", 4), ("is_whole", 5), ("counts", 6), ("first", 7), ("last", 8), ("least_cluster", 9), ("begin", 10), ("end", 11), ("due", 12), ("spot", 13), ("info", 14), ("done", 15), ("old", 16)]
  | .law_due => [("row", 0), ("sets", 1), ("at", 2), ("is_passing", 3), ("fresh", 4), ("rest", 5), ("ligature", 6), ("due", 7), ("places", 8), ("is_whole", 9)]
  | .law_infos => [("row", 0), ("infos", 1), ("place", 2), ("info", 3)]
  | .law => [("script", 0), ("pen", 1), ("row", 2), ("sets", 3), ("is_passing", 4), ("used", 5), ("gdef", 6), ("lookup", 7), ("table", 8), ("at", 9), ("buffer", 10), ("due", 11), ("goal", 12), ("last_lig", 13), ("heard", 14), ("found", 15)]
end Mine
namespace Mine.B
set_option autoImplicit false
set_option linter.unusedVariables false
set_option maxRecDepth 100000

noncomputable def WT (t : Option Bool) (A B : Prop) : Prop := match t with | some true => A | some false => B | none => False
theorem WT.mono {t : Option Bool} {A B A' B' : Prop} (h : A → A') (k : B → B') (w : WT t A B) : WT t A' B' := by
  cases t with
  | none => exact w
  | some b => cases b; exact k w; exact h w
noncomputable def Fits (n : Nat) (P : Prop) : Prop := match Nat.ble n 99999 with | true => P | false => False
theorem Fits.out {n : Nat} {P : Prop} (p : Fits n P) : n < LIM ∧ P := by
  unfold Fits at p
  cases h : Nat.ble n 99999 with
  | true => rw [h] at p; exact ⟨Nat.lt_succ_of_le (Nat.le_of_ble_eq_true h), p⟩
  | false => rw [h] at p; exact p.elim
theorem fits_in {n : Nat} {P : Prop} (h : n < LIM) (p : P) : Fits n P := by
  unfold Fits
  rw [Nat.ble_eq_true_of_le (Nat.le_of_lt_succ h)]
  exact p
theorem Fits.mono {n : Nat} {P Q : Prop} (h : P → Q) (p : Fits n P) : Fits n Q := fits_in p.out.1 (h p.out.2)
noncomputable def IsNone (v : PV) (P : Prop) : Prop := match v with | .none => P | _ => False
theorem IsNone.out {v : PV} {P : Prop} (p : IsNone v P) : v = .none ∧ P := by
  cases v with
  | none => exact ⟨rfl, p⟩
  | _ => exact p.elim
theorem IsNone.mono {v : PV} {P Q : Prop} (h : P → Q) (p : IsNone v P) : IsNone v Q := by
  obtain ⟨rfl, q⟩ := p.out
  exact h q
structure M (α : Type) where
  run : St → (α → St → Prop) → Prop
  mono : ∀ (σ : St) (P Q : α → St → Prop), (∀ a σ', P a σ' → Q a σ') → run σ P → run σ Q
noncomputable abbrev W {α : Type} (m : M α) (σ : St) (Q : α → St → Prop) : Prop := m.run σ Q
namespace M
variable {α β : Type}
noncomputable def pure (a : α) : M α := ⟨fun σ Q => Q a σ, fun _ _ _ h p => h _ _ p⟩
noncomputable def bind (m : M α) (f : α → M β) : M β := ⟨fun σ Q => m.run σ fun a σ' => (f a).run σ' Q, fun _ _ _ h => m.mono _ _ _ fun a σ' => (f a).mono _ _ _ h⟩
noncomputable def fail : M α := ⟨fun _ _ => False, fun _ _ _ _ p => p⟩
structure There (σ : St) (i : Nat) (Q : PObj → St → Prop) : Prop where
  out : ∃ o, σ[i]? = some (some o) ∧ Q o σ
noncomputable def get (i : Nat) : M PObj := ⟨fun σ Q => There σ i Q, fun σ P Q h p => let ⟨o, e, q⟩ := p.out; ⟨o, e, h _ _ q⟩⟩
noncomputable def set (i : Nat) (o : PObj) : M Unit := ⟨fun σ Q => Q () (σ.set i (some o)), fun _ _ _ h p => h _ _ p⟩
noncomputable def erase (i : Nat) : M Unit := ⟨fun σ Q => Q () (σ.set i none), fun _ _ _ h p => h _ _ p⟩
noncomputable def alloc (o : PObj) : M Nat := ⟨fun σ Q => Q σ.length (σ ++ [some o]), fun _ _ _ h p => h _ _ p⟩
noncomputable def guard (b : Bool) : M Unit := ⟨fun σ Q => b = true ∧ Q () σ, fun _ _ _ h p => ⟨p.1, h _ _ p.2⟩⟩
noncomputable def must (n : Nat) : M Unit := ⟨fun σ Q => Fits n (Q () σ), fun _ _ _ h p => Fits.mono (h _ _) p⟩
noncomputable def isNone (v : PV) : M Unit := ⟨fun σ Q => IsNone v (Q () σ), fun _ _ _ h p => IsNone.mono (h _ _) p⟩
noncomputable def asLst (v : PV) : M (List PV) := ⟨fun σ Q => ∃ vs, v = .lst vs ∧ Q vs σ, fun _ _ _ h p => let ⟨vs, e, q⟩ := p; ⟨vs, e, h _ _ q⟩⟩
noncomputable def cond (t : Option Bool) (m1 m2 : M α) : M α := ⟨fun σ Q => WT t (m1.run σ Q) (m2.run σ Q), fun _ _ _ h => WT.mono (m1.mono _ _ _ h) (m2.mono _ _ _ h)⟩
noncomputable def Got (o : Option α) (σ : St) (Q : α → St → Prop) : Prop := match o with | some a => Q a σ | .none => False
theorem Got.mono {o : Option α} {σ : St} {P Q : α → St → Prop} (h : ∀ a σ', P a σ' → Q a σ') (p : Got o σ P) : Got o σ Q := by
  cases o with
  | none => exact p
  | some a => exact h _ _ p
noncomputable def ofOpt (o : Option α) : M α := ⟨fun σ Q => Got o σ Q, fun σ P Q => Got.mono⟩

noncomputable def onInt (v : PV) (k : Int → M β) : M β := match v with | .int i => k i | _ => fail
noncomputable def onRef (v : PV) (k : Nat → M β) : M β := match v with | .ref i => k i | _ => fail
noncomputable def onDct (v : PV) (k : List (Int × PV) → M β) : M β := match v with | .dct i => k i | _ => fail
noncomputable def onLst (v : PV) (k : List PV → M β) : M β := match v with | .lst i => k i | _ => fail
noncomputable def onNone (v : PV) (k : M β) : M β := match v with | .none => k | _ => fail
noncomputable def onOne (vs : List α) (k : α → M β) : M β := match vs with | [v] => k v | _ => fail
noncomputable def onTwo (vs : List α) (k : α → α → M β) : M β := match vs with | [v, u] => k v u | _ => fail
noncomputable def onList (v : PObj) (k : List PV → M β) : M β := match v with | .list i => k i | .dict _ => fail | .inst _ _ => fail
noncomputable def onDict (v : PObj) (k : List (Int × PV) → M β) : M β := match v with | .dict i => k i | .list _ => fail | .inst _ _ => fail
noncomputable def onInst (v : PObj) (k : Cl → List (At × PV) → M β) : M β := match v with | .inst c fs => k c fs | .list _ => fail | .dict _ => fail
variable {σ : St} {Q : β → St → Prop} {v : PV} {R : Prop}
theorem Got_e {o : Option α} {Q : α → St → Prop} (h : Got o σ Q) (q : ∀ a, o = some a → Q a σ → R) : R := by
  cases o with
  | none => exact h.elim
  | some a => exact q a rfl h
theorem opt_e {o : Option α} {f : α → M β} (h : W (bind (ofOpt o) f) σ Q) (q : ∀ a, o = some a → W (f a) σ Q → R) : R := Got_e (Q := fun a σ => W (f a) σ Q) h q
theorem There_e {i : Nat} {Q : PObj → St → Prop} (h : There σ i Q) (q : ∀ o, σ[i]? = some (some o) → Q o σ → R) : R := h.out.elim fun o h => q o h.1 h.2
@[elab_as_elim] theorem onInt_e {P : PV → Prop} {k : Int → M β} (h : W (onInt v k) σ Q) (q : ∀ i, W (k i) σ Q → P (.int i)) : P v := by
  cases v with
  | int i => exact q i h
  | _ => exact h.elim
@[elab_as_elim] theorem onRef_e {P : PV → Prop} {k : Nat → M β} (h : W (onRef v k) σ Q) (q : ∀ i, W (k i) σ Q → P (.ref i)) : P v := by
  cases v with
  | ref i => exact q i h
  | _ => exact h.elim
@[elab_as_elim] theorem onDct_e {P : PV → Prop} {k : List (Int × PV) → M β} (h : W (onDct v k) σ Q) (q : ∀ i, W (k i) σ Q → P (.dct i)) : P v := by
  cases v with
  | dct i => exact q i h
  | _ => exact h.elim
@[elab_as_elim] theorem onLst_e {P : PV → Prop} {k : List PV → M β} (h : W (onLst v k) σ Q) (q : ∀ i, W (k i) σ Q → P (.lst i)) : P v := by
  cases v with
  | lst i => exact q i h
  | _ => exact h.elim
@[elab_as_elim] theorem onNone_e {P : PV → Prop} {k : M β} (h : W (onNone v k) σ Q) (q : W k σ Q → P .none) : P v := by
  cases v with
  | none => exact q h
  | _ => exact h.elim
@[elab_as_elim] theorem onOne_e {P : List α → Prop} {vs : List α} {k : α → M β} (h : W (onOne vs k) σ Q) (q : ∀ v, W (k v) σ Q → P [v]) : P vs := by
  rcases vs with _ | ⟨v, _ | _⟩
  · exact h.elim
  · exact q v h
  · exact h.elim
@[elab_as_elim] theorem onTwo_e {P : List α → Prop} {vs : List α} {k : α → α → M β} (h : W (onTwo vs k) σ Q) (q : ∀ v u, W (k v u) σ Q → P [v, u]) : P vs := by
  rcases vs with _ | ⟨v, _ | ⟨u, _ | _⟩⟩
  · exact h.elim
  · exact h.elim
  · exact q v u h
  · exact h.elim
variable {o : PObj}
@[elab_as_elim] theorem onList_e {P : PObj → Prop} {k : List PV → M β} (h : W (onList o k) σ Q) (q : ∀ vs, W (k vs) σ Q → P (.list vs)) : P o := by
  cases o with
  | list vs => exact q vs h
  | _ => exact h.elim
@[elab_as_elim] theorem onDict_e {P : PObj → Prop} {k : List (Int × PV) → M β} (h : W (onDict o k) σ Q) (q : ∀ vs, W (k vs) σ Q → P (.dict vs)) : P o := by
  cases o with
  | dict vs => exact q vs h
  | _ => exact h.elim
@[elab_as_elim] theorem onInst_e {P : PObj → Prop} {k : Cl → List (At × PV) → M β} (h : W (onInst o k) σ Q) (q : ∀ c fs, W (k c fs) σ Q → P (.inst c fs)) : P o := by
  cases o with
  | inst c fs => exact q c fs h
  | _ => exact h.elim
end M
theorem WT.any {t : Option Bool} {A B : Prop} (h : WT t A B) : t ≠ none := fun e => by subst e; exact h
theorem Fits_e {n : Nat} {P R : Prop} (h : Fits n P) (q : n < LIM → P → R) : R := q h.out.1 h.out.2
@[elab_as_elim] theorem IsNone_e {P : PV → Prop} {v : PV} {R : Prop} (h : IsNone v R) (q : R → P .none) : P v := by
  cases v with
  | none => exact q h
  | _ => exact h.elim
theorem WT.t {t : Option Bool} {A B : Prop} (e : t = some true) (h : WT t A B) : A := by subst e; exact h
theorem WT.f {t : Option Bool} {A B : Prop} (e : t = some false) (h : WT t A B) : B := by subst e; exact h
variable {α β : Type}

noncomputable def itemAt (vs : List PV) (k : Int) : Option PV := (idx vs.length k).bind fun j => vs[j]?
noncomputable def subO (o : PObj) (k : Int) : M PV := match o with
  | .list vs => M.ofOpt (itemAt vs k)
  | .dict kvs => M.ofOpt (kvGet k kvs)
  | .inst _ _ => M.fail
noncomputable def subV (x y : PV) : M PV := M.onInt y fun k => match x with
  | .lst vs => M.ofOpt (itemAt vs k)
  | .tup vs => M.ofOpt (itemAt vs k)
  | .dct kvs => M.ofOpt (kvGet k kvs)
  | .ref i => M.bind (M.get i) fun o => subO o k
  | _ => M.fail
noncomputable def sliceV (x lo hi : PV) : M PV := match x with
  | .lst vs => M.ofOpt ((sliceL vs lo hi).map .lst)
  | .tup vs => M.onInt lo fun k => M.onNone hi (M.ofOpt (if 1 ≤ k ∧ k ≤ vs.length then some (.tup (vs.drop k.toNat)) else .none))
  | .ref i => M.bind (M.get i) fun o => M.onList o fun vs => M.ofOpt ((sliceL vs lo hi).map .lst)
  | _ => M.fail
noncomputable def attrV (n : At) (x : PV) : M PV := match x with
  | .inst _ fs => M.ofOpt (fGet n fs)
  | .ref i => M.bind (M.get i) fun o => M.onInst o fun _ fs => M.ofOpt (fGet n fs)
  | _ => M.fail
noncomputable def lenW (x : PV) : M PV := match x with
  | .lst vs => M.pure (.int vs.length)
  | .tup vs => M.pure (.int vs.length)
  | .ref i => M.bind (M.get i) fun o => M.onList o fun vs => M.pure (.int vs.length)
  | _ => M.fail
noncomputable def builtinM (b : Bi) (vs : List PV) : M PV := match b with
  | .len => M.onOne vs lenW
  | b => M.ofOpt (builtinV b vs)
noncomputable def tstM (c : Option (PV → M PV)) (v : PV) (a b : M α) : M α := match c with
  | none => a
  | some c => M.bind (c v) fun t => M.cond (truth t) a b
noncomputable def mapG (c : Option (PV → M PV)) (f : PV → M PV) : List PV → M (List PV)
  | [] => M.pure []
  | v :: r => tstM c v (M.bind (f v) fun x => M.bind (mapG c f r) fun xs => M.pure (x :: xs)) (mapG c f r)
noncomputable abbrev mapL (f : PV → M PV) : List PV → M (List PV) := mapG none f
noncomputable abbrev mapIf (c f : PV → M PV) : List PV → M (List PV) := mapG (some c) f
noncomputable def mapK {κ : Type} (f : PV → M PV) : List (κ × PV) → M (List (κ × PV))
  | [] => M.pure []
  | p :: r => M.bind (f p.2) fun x => M.bind (mapK f r) fun xs => M.pure ((p.1, x) :: xs)
noncomputable def frzO (f : PV → M PV) (i : Nat) (o : PObj) : M PV := match o with
  | .list vs => M.bind (M.erase i) fun _ => M.bind (mapL f vs) fun us => M.pure (.lst us)
  | .dict kvs => M.bind (M.erase i) fun _ => M.bind (mapK f kvs) fun us => M.pure (.dct us)
  | .inst c fs => M.bind (M.erase i) fun _ => M.bind (mapK f fs) fun us => M.pure (.inst c us)
noncomputable def freeze : Nat → PV → M PV
  | 0, v => M.pure v
  | n + 1, v => match v with
    | .ref i => M.bind (M.get i) (frzO (freeze n) i)
    | .lst vs => M.bind (mapL (freeze n) vs) fun us => M.pure (.lst us)
    | .tup vs => M.bind (mapL (freeze n) vs) fun us => M.pure (.tup us)
    | v => M.pure v
noncomputable def methI (c : Cl) (m : Mt) : M (Option Fn) := match methodOf c m with
  | some f => M.pure (some f)
  | .none => M.fail
noncomputable def methK (m : Mt) (o : PV) : M (Option Fn) := match m with
  | .append => M.onRef o fun i => M.bind (M.get i) fun ob => M.onList ob fun _ => M.pure .none
  | .get => M.onDct o fun _ => M.pure .none
  | .setdefault => M.onRef o fun i => M.bind (M.get i) fun ob => M.onDict ob fun _ => M.pure .none
  | m => match o with
    | .inst c _ => methI c m
    | .ref i => M.bind (M.get i) fun ob => M.onInst ob fun c _ => methI c m
    | _ => M.fail
noncomputable def setD (i : Nat) (k : Int) (d : PV) (kvs : List (Int × PV)) (q : Option PV) : M PV := match q with
  | some v => M.pure v
  | .none => M.bind (M.must kvs.length) fun _ => M.bind (M.set i (.dict (kvPut k d kvs))) fun _ => M.pure d
noncomputable def methV (m : Mt) (o : PV) (args : List PV) : M PV := match m with
  | .append => M.onRef o fun i => M.onOne args fun v => M.bind (M.get i) fun ob => M.onList ob fun vs => M.bind (M.must vs.length) fun _ => M.bind (M.set i (.list (vs ++ [v]))) fun _ => M.pure .none
  | .get => M.onDct o fun kvs => M.onTwo args fun k d => M.onInt k fun k => M.pure ((kvGet k kvs).getD d)
  | .setdefault => M.onRef o fun i => M.onTwo args fun k d => M.onInt k fun k => M.bind (M.get i) fun ob => M.onDict ob fun kvs => setD i k d kvs (kvGet k kvs)
  | _ => M.fail
noncomputable def metG (C : Fn → List PV → M PV) (m : Mt) (q : Option Fn) (o : PV) (vs : List PV) : M PV := match q with | some f => C f (o :: vs) | none => methV m o vs
noncomputable def andM (es : List PE) (m r : M PV) : M PV := match es with
  | [] => m
  | _ :: _ => M.bind m fun v => M.cond (truth v) r (M.pure v)
noncomputable def orM (es : List PE) (m r : M PV) : M PV := match es with
  | [] => m
  | _ :: _ => M.bind m fun v => M.cond (truth v) (M.pure v) r

mutual
noncomputable def evalE (C : Fn → List PV → M PV) : PE → Env → M PV
  | .none, _ => M.pure .none
  | .bool b, _ => M.pure (.bool b)
  | .int i, _ => M.pure (.int i)
  | .neg i, _ => M.pure (.int (-i))
  | .str s, _ => M.pure (.str s)
  | .var k, ρ => M.ofOpt (ρ.get k)
  | .gc g, _ => M.pure (gcVal g)
  | .bin op a b, ρ => M.bind (evalE C a ρ) fun x => M.bind (evalE C b ρ) fun y => M.ofOpt (binV op x y)
  | .not a, ρ => M.bind (evalE C a ρ) fun x => M.bind (M.ofOpt (truth x)) fun t => M.pure (.bool (!t))
  | .band es, ρ => evalAnd C es ρ
  | .bor es, ρ => evalOr C es ρ
  | .ite c a b, ρ => M.bind (evalE C c ρ) fun x => M.cond (truth x) (evalE C a ρ) (evalE C b ρ)
  | .cmp op a b, ρ => M.bind (evalE C a ρ) fun x => M.bind (evalE C b ρ) fun y => M.bind (M.ofOpt (cmpV op x y)) fun t => M.pure (.bool t)
  | .cmp2 op1 op2 a b c, ρ => M.bind (evalE C a ρ) fun x => M.bind (evalE C b ρ) fun y => M.bind (M.ofOpt (cmpV op1 x y)) fun t =>
    M.cond (some t) (M.bind (evalE C c ρ) fun z => M.bind (M.ofOpt (cmpV op2 y z)) fun u => M.pure (.bool u)) (M.pure (.bool false))
  | .tup es, ρ => M.bind (evalL C es ρ) fun vs => M.bind (M.must vs.length) fun _ => M.pure (.tup vs)
  | .list es, ρ => M.bind (evalL C es ρ) fun vs => M.bind (M.must vs.length) fun _ => M.pure (.lst vs)
  | .mlist es, ρ => M.bind (evalL C es ρ) fun vs => M.bind (M.must vs.length) fun _ => M.bind (M.alloc (.list vs)) fun i => M.pure (.ref i)
  | .dict ks es, ρ => M.bind (evalL C es ρ) fun vs => M.pure (.dct (kvPutAll [] (ks.zip vs)))
  | .mdict, _ => M.bind (M.alloc (.dict [])) fun i => M.pure (.ref i)
  | .sub a i, ρ => M.bind (evalE C a ρ) fun x => M.bind (evalE C i ρ) fun y => subV x y
  | .slice a lo hi, ρ => M.bind (evalE C a ρ) fun x => M.bind (evalE C lo ρ) fun l => M.bind (evalE C hi ρ) fun h => sliceV x l h
  | .attr a n, ρ => M.bind (evalE C a ρ) fun x => attrV n x
  | .callF f args, ρ => M.bind (evalL C args ρ) fun vs => C f vs
  | .callC c args, ρ => M.bind (evalL C args ρ) fun vs => M.bind (M.alloc (.inst c [])) fun i => M.bind (C (.init c) (.ref i :: vs)) fun r => M.bind (M.isNone r) fun _ => M.pure (.ref i)
  | .callB b args, ρ => M.bind (evalL C args ρ) fun vs => builtinM b vs
  | .mlistOf a, ρ => M.bind (evalE C a ρ) fun x => M.bind (M.asLst x) fun vs => M.bind (M.alloc (.list vs)) fun i => M.pure (.ref i)
  | .meth a m args, ρ => M.bind (evalE C a ρ) fun o => M.bind (methK m o) fun q => M.bind (evalL C args ρ) fun vs => metG C m q o vs
  | .comp elt x it, ρ => M.bind (evalE C it ρ) fun s => M.bind (M.ofOpt (iterV s)) fun vs => M.bind (M.must vs.length) fun _ => M.bind (mapL (fun v => evalE C elt (ρ.put x v)) vs) fun out => M.pure (.lst out)
  | .compIf elt x it c, ρ => M.bind (evalE C it ρ) fun s => M.bind (M.ofOpt (iterV s)) fun vs => M.bind (M.must vs.length) fun _ =>
    M.bind (mapIf (fun v => evalE C c (ρ.put x v)) (fun v => evalE C elt (ρ.put x v)) vs) fun out => M.pure (.lst out)
  | .frz n a, ρ => M.bind (evalE C a ρ) fun x => freeze n x
  | .bad, _ => M.fail
noncomputable def evalL (C : Fn → List PV → M PV) : List PE → Env → M (List PV)
  | [], _ => M.pure []
  | e :: es, ρ => M.bind (evalE C e ρ) fun v => M.bind (evalL C es ρ) fun vs => M.pure (v :: vs)
noncomputable def evalAnd (C : Fn → List PV → M PV) : List PE → Env → M PV
  | [], _ => M.fail
  | e :: es, ρ => andM es (evalE C e ρ) (evalAnd C es ρ)
noncomputable def evalOr (C : Fn → List PV → M PV) : List PE → Env → M PV
  | [], _ => M.fail
  | e :: es, ρ => orM es (evalE C e ρ) (evalOr C es ρ)
end

noncomputable def turnM (k : Env → M (Fl × Env)) (p : Fl × Env) : M (Fl × Env) := match p.1 with
  | .next => k p.2
  | .brk => M.pure (.next, p.2)
  | .ret x => M.pure (.ret x, p.2)
noncomputable def forL (body : PV → Env → M (Fl × Env)) : List PV → Env → M (Fl × Env)
  | [], ρ => M.pure (.next, ρ)
  | v :: r, ρ => M.bind (body v ρ) (turnM (forL body r))
noncomputable def Turn (I : Env → St → Prop) (Q : Fl × Env → St → Prop) : Fl × Env → St → Prop := fun q σ' => match q.1 with | .next => I q.2 σ' | .brk => Q (.next, q.2) σ' | .ret v => Q (.ret v, q.2) σ'
structure Loops (test : Env → M PV) (body : Env → M (Fl × Env)) (ρ : Env) (σ : St) (Q : Fl × Env → St → Prop) : Prop where
  out : ∃ (I : Nat → Env → St → Prop) (m : Nat), m < WH ∧ I m ρ σ ∧ ∀ m ρ σ, I m ρ σ → (test ρ).run σ (fun t σ₁ => WT (truth t) (0 < m ∧ (body ρ).run σ₁ (Turn (I (m - 1)) Q)) (Q (.next, ρ) σ₁))
theorem Turn.mono {I : Env → St → Prop} {P Q : Fl × Env → St → Prop} (h : ∀ a σ', P a σ' → Q a σ') : ∀ a σ', Turn I P a σ' → Turn I Q a σ' := fun a σ' p => by
  obtain ⟨fl, ρ⟩ := a
  cases fl with
  | next => exact p
  | brk => exact h _ _ p
  | ret v => exact h _ _ p
noncomputable def whileN (test : Env → M PV) (body : Env → M (Fl × Env)) (ρ : Env) : M (Fl × Env) := ⟨fun σ Q => Loops test body ρ σ Q, fun σ P Q h p => by
  obtain ⟨I, m, h1, h2, h3⟩ := p.out
  exact ⟨I, m, h1, h2, fun m ρ σ i => (test ρ).mono _ _ _ (fun t σ₁ w => WT.mono (fun x => ⟨x.1, (body ρ).mono _ _ _ (Turn.mono h) x.2⟩) (h _ _) w) (h3 m ρ σ i)⟩⟩
noncomputable def setSubV (o i v : PV) : M Unit := M.onRef o fun j => M.onInt i fun k => M.bind (M.get j) fun ob => M.onList ob fun vs => M.bind (M.ofOpt (idx vs.length k)) fun p => M.set j (.list (vs.set p v))
noncomputable def setSliceV (o lo hi v : PV) : M Unit := M.onRef o fun j => M.onInt lo fun a => M.onInt hi fun b => M.onLst v fun ys => M.bind (M.get j) fun ob => M.onList ob fun vs =>
  M.bind (M.guard (decide (0 ≤ a) && decide (a ≤ b) && decide (b ≤ vs.length) && decide (vs.length + ys.length < LIM))) fun _ => M.set j (.list (vs.take a.toNat ++ ys ++ vs.drop b.toNat))
noncomputable def setAttrV (o : PV) (n : At) (v : PV) : M Unit := M.onRef o fun j => M.bind (M.get j) fun ob => M.onInst ob fun c fs => M.set j (.inst c (fPut n v fs))
noncomputable def seqM (k : Env → M (Fl × Env)) (p : Fl × Env) : M (Fl × Env) := match p.1 with
  | .next => k p.2
  | .brk => M.pure (.brk, p.2)
  | .ret v => M.pure (.ret v, p.2)
noncomputable def nextM (ρ : Env) (m : M Unit) : M (Fl × Env) := M.bind m fun _ => M.pure (.next, ρ)
mutual
noncomputable def execS (C : Fn → List PV → M PV) : PS → Env → M (Fl × Env)
  | .assign x e, ρ => M.bind (evalE C e ρ) fun v => M.pure (.next, ρ.put x v)
  | .assignT xs e, ρ => M.bind (evalE C e ρ) fun v => M.bind (M.ofOpt (itemsN xs.length v)) fun vs => M.pure (.next, ρ.putAll xs vs)
  | .setAttr o n e, ρ => M.bind (evalE C e ρ) fun v => M.bind (evalE C o ρ) fun x => nextM ρ (setAttrV x n v)
  | .setSub o i e, ρ => M.bind (evalE C e ρ) fun v => M.bind (evalE C o ρ) fun x => M.bind (evalE C i ρ) fun k => nextM ρ (setSubV x k v)
  | .setSlice o lo hi e, ρ => M.bind (evalE C e ρ) fun v => M.bind (evalE C o ρ) fun x => M.bind (evalE C lo ρ) fun a => M.bind (evalE C hi ρ) fun b => nextM ρ (setSliceV x a b v)
  | .ifs c t f, ρ => M.bind (evalE C c ρ) fun x => M.cond (truth x) (execL C t ρ) (execL C f ρ)
  | .whiles c b, ρ => whileN (evalE C c) (execL C b) ρ
  | .fors x it b, ρ => M.bind (evalE C it ρ) fun s => M.bind (M.ofOpt (iterV s)) fun vs => forL (fun v ρ' => execL C b (ρ'.put x v)) vs ρ
  | .forsT xs it b, ρ => M.bind (evalE C it ρ) fun s => M.bind (M.ofOpt (iterV s)) fun vs => forL (fun v ρ' => M.bind (M.ofOpt (itemsN xs.length v)) fun us => execL C b (ρ'.putAll xs us)) vs ρ
  | .ret e, ρ => M.bind (evalE C e ρ) fun v => M.pure (.ret v, ρ)
  | .brk, ρ => M.pure (.brk, ρ)
  | .expr e, ρ => M.bind (evalE C e ρ) fun _ => M.pure (.next, ρ)
  | .frz n x, ρ => M.bind (M.ofOpt (ρ.get x)) fun v => M.bind (freeze n v) fun v' => M.pure (.next, ρ.put x v')
noncomputable def execL (C : Fn → List PV → M PV) : List PS → Env → M (Fl × Env)
  | [], ρ => M.pure (.next, ρ)
  | s :: r, ρ => M.bind (execS C s ρ) (seqM (execL C r))
end
noncomputable def endM (p : Fl × Env) : M PV := match p.1 with
  | .next => M.pure .none
  | .ret v => M.pure v
  | .brk => M.fail
noncomputable def callB (C : Fn → List PV → M PV) (d : Def) (args : List PV) : M PV := M.bind (M.ofOpt (bindA d args)) fun ρ => M.bind (execL C d.body ρ) endM
structure Called (D : Fn → Def) (C : Fn → List PV → M PV) (f : Fn) (args : List PV) (σ : St) (Q : PV → St → Prop) : Prop where
  out : (callB C (D f) args).run σ Q
noncomputable def callN (D : Fn → Def) : Nat → Fn → List PV → M PV
  | 0, _, _ => M.fail
  | n + 1, f, args => ⟨fun σ Q => Called D (callN D n) f args σ Q, fun σ P Q h p => ⟨(callB (callN D n) (D f) args).mono σ P Q h p.out⟩⟩
set_option backward.defeqAttrib.useBackward true
noncomputable def kBin2 (op : BOp) (x : PV) (Q : PV → St → Prop) (y : PV) (σ : St) : Prop := W (M.ofOpt (binV op x y)) σ Q
noncomputable def kBin1 (C : Fn → List PV → M PV) (op : BOp) (b : PE) (ρ : Env) (Q : PV → St → Prop) (x : PV) (σ : St) : Prop := W (evalE C b ρ) σ (kBin2 op x Q)
noncomputable def kNot2 (Q : PV → St → Prop) (t : Bool) (σ : St) : Prop := Q (.bool (!t)) σ
noncomputable def kNot (Q : PV → St → Prop) (x : PV) (σ : St) : Prop := W (M.ofOpt (truth x)) σ (kNot2 Q)
noncomputable def kAnd (C : Fn → List PV → M PV) (es : List PE) (ρ : Env) (Q : PV → St → Prop) (v : PV) (σ : St) : Prop := WT (truth v) (W (evalAnd C es ρ) σ Q) (Q v σ)
noncomputable def kOr (C : Fn → List PV → M PV) (es : List PE) (ρ : Env) (Q : PV → St → Prop) (v : PV) (σ : St) : Prop := WT (truth v) (Q v σ) (W (evalOr C es ρ) σ Q)
noncomputable def kIte (C : Fn → List PV → M PV) (a : PE) (b : PE) (ρ : Env) (Q : PV → St → Prop) (x : PV) (σ : St) : Prop := WT (truth x) (W (evalE C a ρ) σ Q) (W (evalE C b ρ) σ Q)
noncomputable def kBool (Q : PV → St → Prop) (t : Bool) (σ : St) : Prop := Q (.bool t) σ
noncomputable def kCmp2 (op : COp) (x : PV) (Q : PV → St → Prop) (y : PV) (σ : St) : Prop := W (M.ofOpt (cmpV op x y)) σ (kBool Q)
noncomputable def kCmp1 (C : Fn → List PV → M PV) (op : COp) (b : PE) (ρ : Env) (Q : PV → St → Prop) (x : PV) (σ : St) : Prop := W (evalE C b ρ) σ (kCmp2 op x Q)
noncomputable def kCC3 (C : Fn → List PV → M PV) (op2 : COp) (y : PV) (c : PE) (ρ : Env) (Q : PV → St → Prop) (t : Bool) (σ : St) : Prop := WT (some t) (W (evalE C c ρ) σ (kCmp2 op2 y Q)) (Q (.bool false) σ)
noncomputable def kCC2 (C : Fn → List PV → M PV) (op1 : COp) (op2 : COp) (x : PV) (c : PE) (ρ : Env) (Q : PV → St → Prop) (y : PV) (σ : St) : Prop := W (M.ofOpt (cmpV op1 x y)) σ (kCC3 C op2 y c ρ Q)
noncomputable def kCC1 (C : Fn → List PV → M PV) (op1 : COp) (op2 : COp) (b : PE) (c : PE) (ρ : Env) (Q : PV → St → Prop) (x : PV) (σ : St) : Prop := W (evalE C b ρ) σ (kCC2 C op1 op2 x c ρ Q)
noncomputable def kTup (Q : PV → St → Prop) (vs : List PV) (σ : St) : Prop := Fits vs.length (Q (.tup vs) σ)
noncomputable def kList (Q : PV → St → Prop) (vs : List PV) (σ : St) : Prop := Fits vs.length (Q (.lst vs) σ)
noncomputable def kMlist (Q : PV → St → Prop) (vs : List PV) (σ : St) : Prop := Fits vs.length (Q (.ref σ.length) (σ ++ [some (.list vs)]))
noncomputable def kDict (ks : List Int) (Q : PV → St → Prop) (vs : List PV) (σ : St) : Prop := Q (.dct (kvPutAll [] (ks.zip vs))) σ
noncomputable def kSub2 (x : PV) (Q : PV → St → Prop) (y : PV) (σ : St) : Prop := W (subV x y) σ Q
noncomputable def kSub1 (C : Fn → List PV → M PV) (i : PE) (ρ : Env) (Q : PV → St → Prop) (x : PV) (σ : St) : Prop := W (evalE C i ρ) σ (kSub2 x Q)
noncomputable def kSl3 (x : PV) (l : PV) (Q : PV → St → Prop) (h : PV) (σ : St) : Prop := W (sliceV x l h) σ Q
noncomputable def kSl2 (C : Fn → List PV → M PV) (x : PV) (hi : PE) (ρ : Env) (Q : PV → St → Prop) (l : PV) (σ : St) : Prop := W (evalE C hi ρ) σ (kSl3 x l Q)
noncomputable def kSl1 (C : Fn → List PV → M PV) (lo : PE) (hi : PE) (ρ : Env) (Q : PV → St → Prop) (x : PV) (σ : St) : Prop := W (evalE C lo ρ) σ (kSl2 C x hi ρ Q)
noncomputable def kAttr (n : At) (Q : PV → St → Prop) (x : PV) (σ : St) : Prop := W (attrV n x) σ Q
noncomputable def kCallF (C : Fn → List PV → M PV) (f : Fn) (Q : PV → St → Prop) (vs : List PV) (σ : St) : Prop := W (C f vs) σ Q
noncomputable def kNew (i : Nat) (Q : PV → St → Prop) (r : PV) (σ : St) : Prop := IsNone r (Q (.ref i) σ)
noncomputable def kCallC (C : Fn → List PV → M PV) (c : Cl) (Q : PV → St → Prop) (vs : List PV) (σ : St) : Prop := W (C (.init c) (.ref σ.length :: vs)) (σ ++ [some (.inst c [])]) (kNew σ.length Q)
noncomputable def kCallB (b : Bi) (Q : PV → St → Prop) (vs : List PV) (σ : St) : Prop := W (builtinM b vs) σ Q
noncomputable def kMlistOf (Q : PV → St → Prop) (x : PV) (σ : St) : Prop := ∃ vs, x = .lst vs ∧ Q (.ref σ.length) (σ ++ [some (.list vs)])
noncomputable def kMeth3 (C : Fn → List PV → M PV) (m : Mt) (q : Option Fn) (o : PV) (Q : PV → St → Prop) (vs : List PV) (σ : St) : Prop := W (metG C m q o vs) σ Q
noncomputable def kMeth2 (C : Fn → List PV → M PV) (m : Mt) (o : PV) (es : List PE) (ρ : Env) (Q : PV → St → Prop) (q : Option Fn) (σ : St) : Prop := W (evalL C es ρ) σ (kMeth3 C m q o Q)
noncomputable def kMeth1 (C : Fn → List PV → M PV) (m : Mt) (es : List PE) (ρ : Env) (Q : PV → St → Prop) (o : PV) (σ : St) : Prop := W (methK m o) σ (kMeth2 C m o es ρ Q)
noncomputable def kLst (Q : PV → St → Prop) (out : List PV) (σ : St) : Prop := Q (.lst out) σ
noncomputable def kComp2 (C : Fn → List PV → M PV) (elt : PE) (x : Nat) (ρ : Env) (Q : PV → St → Prop) (vs : List PV) (σ : St) : Prop := Fits vs.length (W (mapL (fun v => evalE C elt (ρ.put x v)) vs) σ (kLst Q))
noncomputable def kComp1 (C : Fn → List PV → M PV) (elt : PE) (x : Nat) (ρ : Env) (Q : PV → St → Prop) (s : PV) (σ : St) : Prop := W (M.ofOpt (iterV s)) σ (kComp2 C elt x ρ Q)
noncomputable def kCompIf2 (C : Fn → List PV → M PV) (elt : PE) (x : Nat) (c : PE) (ρ : Env) (Q : PV → St → Prop) (vs : List PV) (σ : St) : Prop := Fits vs.length (W (mapIf (fun v => evalE C c (ρ.put x v)) (fun v => evalE C elt (ρ.put x v)) vs) σ (kLst Q))
noncomputable def kCompIf1 (C : Fn → List PV → M PV) (elt : PE) (x : Nat) (c : PE) (ρ : Env) (Q : PV → St → Prop) (s : PV) (σ : St) : Prop := W (M.ofOpt (iterV s)) σ (kCompIf2 C elt x c ρ Q)
noncomputable def kFrz (n : Nat) (Q : PV → St → Prop) (x : PV) (σ : St) : Prop := W (freeze n x) σ Q
noncomputable def kL2 (v : PV) (QL : List PV → St → Prop) (vs : List PV) (σ : St) : Prop := QL (v :: vs) σ
noncomputable def kL1 (C : Fn → List PV → M PV) (es : List PE) (ρ : Env) (QL : List PV → St → Prop) (v : PV) (σ : St) : Prop := W (evalL C es ρ) σ (kL2 v QL)
noncomputable def kAssign (ρ : Env) (x : Nat) (QS : Fl × Env → St → Prop) (v : PV) (σ : St) : Prop := QS (.next, ρ.put x v) σ
noncomputable def kAssignT2 (ρ : Env) (xs : List Nat) (QS : Fl × Env → St → Prop) (vs : List PV) (σ : St) : Prop := QS (.next, ρ.putAll xs vs) σ
noncomputable def kAssignT1 (ρ : Env) (xs : List Nat) (QS : Fl × Env → St → Prop) (v : PV) (σ : St) : Prop := W (M.ofOpt (itemsN xs.length v)) σ (kAssignT2 ρ xs QS)
noncomputable def kDone (ρ : Env) (QS : Fl × Env → St → Prop) (_u : Unit) (σ : St) : Prop := QS (.next, ρ) σ
noncomputable def kSetA2 (n : At) (v : PV) (ρ : Env) (QS : Fl × Env → St → Prop) (x : PV) (σ : St) : Prop := W (setAttrV x n v) σ (kDone ρ QS)
noncomputable def kSetA1 (C : Fn → List PV → M PV) (n : At) (o : PE) (ρ : Env) (QS : Fl × Env → St → Prop) (v : PV) (σ : St) : Prop := W (evalE C o ρ) σ (kSetA2 n v ρ QS)
noncomputable def kSetB3 (v : PV) (x : PV) (ρ : Env) (QS : Fl × Env → St → Prop) (k : PV) (σ : St) : Prop := W (setSubV x k v) σ (kDone ρ QS)
noncomputable def kSetB2 (C : Fn → List PV → M PV) (v : PV) (i : PE) (ρ : Env) (QS : Fl × Env → St → Prop) (x : PV) (σ : St) : Prop := W (evalE C i ρ) σ (kSetB3 v x ρ QS)
noncomputable def kSetB1 (C : Fn → List PV → M PV) (o : PE) (i : PE) (ρ : Env) (QS : Fl × Env → St → Prop) (v : PV) (σ : St) : Prop := W (evalE C o ρ) σ (kSetB2 C v i ρ QS)
noncomputable def kSetC4 (v : PV) (x : PV) (a : PV) (ρ : Env) (QS : Fl × Env → St → Prop) (b : PV) (σ : St) : Prop := W (setSliceV x a b v) σ (kDone ρ QS)
noncomputable def kSetC3 (C : Fn → List PV → M PV) (v : PV) (x : PV) (hi : PE) (ρ : Env) (QS : Fl × Env → St → Prop) (a : PV) (σ : St) : Prop := W (evalE C hi ρ) σ (kSetC4 v x a ρ QS)
noncomputable def kSetC2 (C : Fn → List PV → M PV) (v : PV) (lo : PE) (hi : PE) (ρ : Env) (QS : Fl × Env → St → Prop) (x : PV) (σ : St) : Prop := W (evalE C lo ρ) σ (kSetC3 C v x hi ρ QS)
noncomputable def kSetC1 (C : Fn → List PV → M PV) (o : PE) (lo : PE) (hi : PE) (ρ : Env) (QS : Fl × Env → St → Prop) (v : PV) (σ : St) : Prop := W (evalE C o ρ) σ (kSetC2 C v lo hi ρ QS)
noncomputable def kIf (C : Fn → List PV → M PV) (t : List PS) (f : List PS) (ρ : Env) (QS : Fl × Env → St → Prop) (x : PV) (σ : St) : Prop := WT (truth x) (W (execL C t ρ) σ QS) (W (execL C f ρ) σ QS)
noncomputable def kFor2 (C : Fn → List PV → M PV) (x : Nat) (b : List PS) (ρ : Env) (QS : Fl × Env → St → Prop) (vs : List PV) (σ : St) : Prop := W (forL (fun v ρ' => execL C b (ρ'.put x v)) vs ρ) σ QS
noncomputable def kFor1 (C : Fn → List PV → M PV) (x : Nat) (b : List PS) (ρ : Env) (QS : Fl × Env → St → Prop) (s : PV) (σ : St) : Prop := W (M.ofOpt (iterV s)) σ (kFor2 C x b ρ QS)
noncomputable def kForT2 (C : Fn → List PV → M PV) (xs : List Nat) (b : List PS) (ρ : Env) (QS : Fl × Env → St → Prop) (vs : List PV) (σ : St) : Prop := W (forL (fun v ρ' => M.bind (M.ofOpt (itemsN xs.length v)) fun us => execL C b (ρ'.putAll xs us)) vs ρ) σ QS
noncomputable def kForT1 (C : Fn → List PV → M PV) (xs : List Nat) (b : List PS) (ρ : Env) (QS : Fl × Env → St → Prop) (s : PV) (σ : St) : Prop := W (M.ofOpt (iterV s)) σ (kForT2 C xs b ρ QS)
noncomputable def kRet (ρ : Env) (QS : Fl × Env → St → Prop) (v : PV) (σ : St) : Prop := QS (.ret v, ρ) σ
noncomputable def kExpr (ρ : Env) (QS : Fl × Env → St → Prop) (_v : PV) (σ : St) : Prop := QS (.next, ρ) σ
noncomputable def kFz2 (ρ : Env) (x : Nat) (QS : Fl × Env → St → Prop) (v : PV) (σ : St) : Prop := QS (.next, ρ.put x v) σ
noncomputable def kFz1 (n : Nat) (ρ : Env) (x : Nat) (QS : Fl × Env → St → Prop) (v : PV) (σ : St) : Prop := W (freeze n v) σ (kFz2 ρ x QS)
section
variable {C : Fn → List PV → M PV} {ρ : Env} {σ : St} {Q : PV → St → Prop} {QL : List PV → St → Prop} {QS : Fl × Env → St → Prop}
@[simp] theorem kBin2_ap {op : BOp} {x : PV} {y : PV} : kBin2 op x Q y σ = (W (M.ofOpt (binV op x y)) σ Q) := rfl
@[simp] theorem kBin1_ap {op : BOp} {b : PE} {x : PV} : kBin1 C op b ρ Q x σ = (W (evalE C b ρ) σ (kBin2 op x Q)) := rfl
@[simp] theorem kNot2_ap  {t : Bool} : kNot2 Q t σ = (Q (.bool (!t)) σ) := rfl
@[simp] theorem kNot_ap  {x : PV} : kNot Q x σ = (W (M.ofOpt (truth x)) σ (kNot2 Q)) := rfl
@[simp] theorem kAnd_ap {es : List PE} {v : PV} : kAnd C es ρ Q v σ = (WT (truth v) (W (evalAnd C es ρ) σ Q) (Q v σ)) := rfl
@[simp] theorem kOr_ap {es : List PE} {v : PV} : kOr C es ρ Q v σ = (WT (truth v) (Q v σ) (W (evalOr C es ρ) σ Q)) := rfl
@[simp] theorem kIte_ap {a : PE} {b : PE} {x : PV} : kIte C a b ρ Q x σ = (WT (truth x) (W (evalE C a ρ) σ Q) (W (evalE C b ρ) σ Q)) := rfl
@[simp] theorem kBool_ap  {t : Bool} : kBool Q t σ = (Q (.bool t) σ) := rfl
@[simp] theorem kCmp2_ap {op : COp} {x : PV} {y : PV} : kCmp2 op x Q y σ = (W (M.ofOpt (cmpV op x y)) σ (kBool Q)) := rfl
@[simp] theorem kCmp1_ap {op : COp} {b : PE} {x : PV} : kCmp1 C op b ρ Q x σ = (W (evalE C b ρ) σ (kCmp2 op x Q)) := rfl
@[simp] theorem kCC3_ap {op2 : COp} {y : PV} {c : PE} {t : Bool} : kCC3 C op2 y c ρ Q t σ = (WT (some t) (W (evalE C c ρ) σ (kCmp2 op2 y Q)) (Q (.bool false) σ)) := rfl
@[simp] theorem kCC2_ap {op1 : COp} {op2 : COp} {x : PV} {c : PE} {y : PV} : kCC2 C op1 op2 x c ρ Q y σ = (W (M.ofOpt (cmpV op1 x y)) σ (kCC3 C op2 y c ρ Q)) := rfl
@[simp] theorem kCC1_ap {op1 : COp} {op2 : COp} {b : PE} {c : PE} {x : PV} : kCC1 C op1 op2 b c ρ Q x σ = (W (evalE C b ρ) σ (kCC2 C op1 op2 x c ρ Q)) := rfl
@[simp] theorem kTup_ap  {vs : List PV} : kTup Q vs σ = (Fits vs.length (Q (.tup vs) σ)) := rfl
@[simp] theorem kList_ap  {vs : List PV} : kList Q vs σ = (Fits vs.length (Q (.lst vs) σ)) := rfl
@[simp] theorem kMlist_ap  {vs : List PV} : kMlist Q vs σ = (Fits vs.length (Q (.ref σ.length) (σ ++ [some (.list vs)]))) := rfl
@[simp] theorem kDict_ap {ks : List Int} {vs : List PV} : kDict ks Q vs σ = (Q (.dct (kvPutAll [] (ks.zip vs))) σ) := rfl
@[simp] theorem kSub2_ap {x : PV} {y : PV} : kSub2 x Q y σ = (W (subV x y) σ Q) := rfl
@[simp] theorem kSub1_ap {i : PE} {x : PV} : kSub1 C i ρ Q x σ = (W (evalE C i ρ) σ (kSub2 x Q)) := rfl
@[simp] theorem kSl3_ap {x : PV} {l : PV} {h : PV} : kSl3 x l Q h σ = (W (sliceV x l h) σ Q) := rfl
@[simp] theorem kSl2_ap {x : PV} {hi : PE} {l : PV} : kSl2 C x hi ρ Q l σ = (W (evalE C hi ρ) σ (kSl3 x l Q)) := rfl
@[simp] theorem kSl1_ap {lo : PE} {hi : PE} {x : PV} : kSl1 C lo hi ρ Q x σ = (W (evalE C lo ρ) σ (kSl2 C x hi ρ Q)) := rfl
@[simp] theorem kAttr_ap {n : At} {x : PV} : kAttr n Q x σ = (W (attrV n x) σ Q) := rfl
@[simp] theorem kCallF_ap {f : Fn} {vs : List PV} : kCallF C f Q vs σ = (W (C f vs) σ Q) := rfl
@[simp] theorem kNew_ap {i : Nat} {r : PV} : kNew i Q r σ = (IsNone r (Q (.ref i) σ)) := rfl
@[simp] theorem kCallC_ap {c : Cl} {vs : List PV} : kCallC C c Q vs σ = (W (C (.init c) (.ref σ.length :: vs)) (σ ++ [some (.inst c [])]) (kNew σ.length Q)) := rfl
@[simp] theorem kCallB_ap {b : Bi} {vs : List PV} : kCallB b Q vs σ = (W (builtinM b vs) σ Q) := rfl
@[simp] theorem kMlistOf_ap  {x : PV} : kMlistOf Q x σ = (∃ vs, x = .lst vs ∧ Q (.ref σ.length) (σ ++ [some (.list vs)])) := rfl
@[simp] theorem kMeth3_ap {m : Mt} {q : Option Fn} {o : PV} {vs : List PV} : kMeth3 C m q o Q vs σ = (W (metG C m q o vs) σ Q) := rfl
@[simp] theorem kMeth2_ap {m : Mt} {o : PV} {es : List PE} {q : Option Fn} : kMeth2 C m o es ρ Q q σ = (W (evalL C es ρ) σ (kMeth3 C m q o Q)) := rfl
@[simp] theorem kMeth1_ap {m : Mt} {es : List PE} {o : PV} : kMeth1 C m es ρ Q o σ = (W (methK m o) σ (kMeth2 C m o es ρ Q)) := rfl
@[simp] theorem kLst_ap  {out : List PV} : kLst Q out σ = (Q (.lst out) σ) := rfl
@[simp] theorem kComp2_ap {elt : PE} {x : Nat} {vs : List PV} : kComp2 C elt x ρ Q vs σ = (Fits vs.length (W (mapL (fun v => evalE C elt (ρ.put x v)) vs) σ (kLst Q))) := rfl
@[simp] theorem kComp1_ap {elt : PE} {x : Nat} {s : PV} : kComp1 C elt x ρ Q s σ = (W (M.ofOpt (iterV s)) σ (kComp2 C elt x ρ Q)) := rfl
@[simp] theorem kCompIf2_ap {elt : PE} {x : Nat} {c : PE} {vs : List PV} : kCompIf2 C elt x c ρ Q vs σ = (Fits vs.length (W (mapIf (fun v => evalE C c (ρ.put x v)) (fun v => evalE C elt (ρ.put x v)) vs) σ (kLst Q))) := rfl
@[simp] theorem kCompIf1_ap {elt : PE} {x : Nat} {c : PE} {s : PV} : kCompIf1 C elt x c ρ Q s σ = (W (M.ofOpt (iterV s)) σ (kCompIf2 C elt x c ρ Q)) := rfl
@[simp] theorem kFrz_ap {n : Nat} {x : PV} : kFrz n Q x σ = (W (freeze n x) σ Q) := rfl
@[simp] theorem kL2_ap {v : PV} {vs : List PV} : kL2 v QL vs σ = (QL (v :: vs) σ) := rfl
@[simp] theorem kL1_ap {es : List PE} {v : PV} : kL1 C es ρ QL v σ = (W (evalL C es ρ) σ (kL2 v QL)) := rfl
@[simp] theorem kAssign_ap {x : Nat} {v : PV} : kAssign ρ x QS v σ = (QS (.next, ρ.put x v) σ) := rfl
@[simp] theorem kAssignT2_ap {xs : List Nat} {vs : List PV} : kAssignT2 ρ xs QS vs σ = (QS (.next, ρ.putAll xs vs) σ) := rfl
@[simp] theorem kAssignT1_ap {xs : List Nat} {v : PV} : kAssignT1 ρ xs QS v σ = (W (M.ofOpt (itemsN xs.length v)) σ (kAssignT2 ρ xs QS)) := rfl
@[simp] theorem kDone_ap  {_u : Unit} : kDone ρ QS _u σ = (QS (.next, ρ) σ) := rfl
@[simp] theorem kSetA2_ap {n : At} {v : PV} {x : PV} : kSetA2 n v ρ QS x σ = (W (setAttrV x n v) σ (kDone ρ QS)) := rfl
@[simp] theorem kSetA1_ap {n : At} {o : PE} {v : PV} : kSetA1 C n o ρ QS v σ = (W (evalE C o ρ) σ (kSetA2 n v ρ QS)) := rfl
@[simp] theorem kSetB3_ap {v : PV} {x : PV} {k : PV} : kSetB3 v x ρ QS k σ = (W (setSubV x k v) σ (kDone ρ QS)) := rfl
@[simp] theorem kSetB2_ap {v : PV} {i : PE} {x : PV} : kSetB2 C v i ρ QS x σ = (W (evalE C i ρ) σ (kSetB3 v x ρ QS)) := rfl
@[simp] theorem kSetB1_ap {o : PE} {i : PE} {v : PV} : kSetB1 C o i ρ QS v σ = (W (evalE C o ρ) σ (kSetB2 C v i ρ QS)) := rfl
@[simp] theorem kSetC4_ap {v : PV} {x : PV} {a : PV} {b : PV} : kSetC4 v x a ρ QS b σ = (W (setSliceV x a b v) σ (kDone ρ QS)) := rfl
@[simp] theorem kSetC3_ap {v : PV} {x : PV} {hi : PE} {a : PV} : kSetC3 C v x hi ρ QS a σ = (W (evalE C hi ρ) σ (kSetC4 v x a ρ QS)) := rfl
@[simp] theorem kSetC2_ap {v : PV} {lo : PE} {hi : PE} {x : PV} : kSetC2 C v lo hi ρ QS x σ = (W (evalE C lo ρ) σ (kSetC3 C v x hi ρ QS)) := rfl
@[simp] theorem kSetC1_ap {o : PE} {lo : PE} {hi : PE} {v : PV} : kSetC1 C o lo hi ρ QS v σ = (W (evalE C o ρ) σ (kSetC2 C v lo hi ρ QS)) := rfl
@[simp] theorem kIf_ap {t : List PS} {f : List PS} {x : PV} : kIf C t f ρ QS x σ = (WT (truth x) (W (execL C t ρ) σ QS) (W (execL C f ρ) σ QS)) := rfl
@[simp] theorem kFor2_ap {x : Nat} {b : List PS} {vs : List PV} : kFor2 C x b ρ QS vs σ = (W (forL (fun v ρ' => execL C b (ρ'.put x v)) vs ρ) σ QS) := rfl
@[simp] theorem kFor1_ap {x : Nat} {b : List PS} {s : PV} : kFor1 C x b ρ QS s σ = (W (M.ofOpt (iterV s)) σ (kFor2 C x b ρ QS)) := rfl
@[simp] theorem kForT2_ap {xs : List Nat} {b : List PS} {vs : List PV} : kForT2 C xs b ρ QS vs σ = (W (forL (fun v ρ' => M.bind (M.ofOpt (itemsN xs.length v)) fun us => execL C b (ρ'.putAll xs us)) vs ρ) σ QS) := rfl
@[simp] theorem kForT1_ap {xs : List Nat} {b : List PS} {s : PV} : kForT1 C xs b ρ QS s σ = (W (M.ofOpt (iterV s)) σ (kForT2 C xs b ρ QS)) := rfl
@[simp] theorem kRet_ap  {v : PV} : kRet ρ QS v σ = (QS (.ret v, ρ) σ) := rfl
@[simp] theorem kExpr_ap  {_v : PV} : kExpr ρ QS _v σ = (QS (.next, ρ) σ) := rfl
@[simp] theorem kFz2_ap {x : Nat} {v : PV} : kFz2 ρ x QS v σ = (QS (.next, ρ.put x v) σ) := rfl
@[simp] theorem kFz1_ap {n : Nat} {x : Nat} {v : PV} : kFz1 n ρ x QS v σ = (W (freeze n v) σ (kFz2 ρ x QS)) := rfl
@[simp] theorem wE_none : W (evalE C .none ρ) σ Q = Q .none σ := rfl
@[simp] theorem wE_bool {b : Bool} : W (evalE C (.bool b) ρ) σ Q = Q (.bool b) σ := rfl
@[simp] theorem wE_int {i : Int} : W (evalE C (.int i) ρ) σ Q = Q (.int i) σ := rfl
@[simp] theorem wE_neg {i : Int} : W (evalE C (.neg i) ρ) σ Q = Q (.int (-i)) σ := rfl
@[simp] theorem wE_str {k : SK} : W (evalE C (.str k) ρ) σ Q = Q (.str k) σ := rfl
@[simp] theorem wE_var {k : Nat} : W (evalE C (.var k) ρ) σ Q = W (M.ofOpt (ρ.get k)) σ Q := rfl
@[simp] theorem wE_gc {g : Gc} : W (evalE C (.gc g) ρ) σ Q = Q (gcVal g) σ := rfl
@[simp] theorem wE_bin {op : BOp} {a b : PE} : W (evalE C (.bin op a b) ρ) σ Q = W (evalE C a ρ) σ (kBin1 C op b ρ Q) := rfl
@[simp] theorem wE_not {a : PE} : W (evalE C (.not a) ρ) σ Q = W (evalE C a ρ) σ (kNot Q) := rfl
@[simp] theorem wE_and {es : List PE} : W (evalE C (.band es) ρ) σ Q = W (evalAnd C es ρ) σ Q := rfl
@[simp] theorem wE_or {es : List PE} : W (evalE C (.bor es) ρ) σ Q = W (evalOr C es ρ) σ Q := rfl
@[simp] theorem wA_one {e : PE} : W (evalAnd C [e] ρ) σ Q = W (evalE C e ρ) σ Q := rfl
@[simp] theorem wA_more {e e2 : PE} {es : List PE} : W (evalAnd C (e :: e2 :: es) ρ) σ Q = W (evalE C e ρ) σ (kAnd C (e2 :: es) ρ Q) := rfl
@[simp] theorem wO_one {e : PE} : W (evalOr C [e] ρ) σ Q = W (evalE C e ρ) σ Q := rfl
@[simp] theorem wO_more {e e2 : PE} {es : List PE} : W (evalOr C (e :: e2 :: es) ρ) σ Q = W (evalE C e ρ) σ (kOr C (e2 :: es) ρ Q) := rfl
@[simp] theorem wE_ite {c a b : PE} : W (evalE C (.ite c a b) ρ) σ Q = W (evalE C c ρ) σ (kIte C a b ρ Q) := rfl
@[simp] theorem wE_cmp {op : COp} {a b : PE} : W (evalE C (.cmp op a b) ρ) σ Q = W (evalE C a ρ) σ (kCmp1 C op b ρ Q) := rfl
@[simp] theorem wE_cmp2 {op1 op2 : COp} {a b c : PE} : W (evalE C (.cmp2 op1 op2 a b c) ρ) σ Q = W (evalE C a ρ) σ (kCC1 C op1 op2 b c ρ Q) := rfl
@[simp] theorem wE_tup {es : List PE} : W (evalE C (.tup es) ρ) σ Q = W (evalL C es ρ) σ (kTup Q) := rfl
@[simp] theorem wE_list {es : List PE} : W (evalE C (.list es) ρ) σ Q = W (evalL C es ρ) σ (kList Q) := rfl
@[simp] theorem wE_mlist {es : List PE} : W (evalE C (.mlist es) ρ) σ Q = W (evalL C es ρ) σ (kMlist Q) := rfl
@[simp] theorem wE_dict {ks : List Int} {es : List PE} : W (evalE C (.dict ks es) ρ) σ Q = W (evalL C es ρ) σ (kDict ks Q) := rfl
@[simp] theorem wE_mdict : W (evalE C .mdict ρ) σ Q = Q (.ref σ.length) (σ ++ [some (.dict [])]) := rfl
@[simp] theorem wE_sub {a i : PE} : W (evalE C (.sub a i) ρ) σ Q = W (evalE C a ρ) σ (kSub1 C i ρ Q) := rfl
@[simp] theorem wE_slice {a lo hi : PE} : W (evalE C (.slice a lo hi) ρ) σ Q = W (evalE C a ρ) σ (kSl1 C lo hi ρ Q) := rfl
@[simp] theorem wE_attr {a : PE} {n : At} : W (evalE C (.attr a n) ρ) σ Q = W (evalE C a ρ) σ (kAttr n Q) := rfl
@[simp] theorem wE_callF {f : Fn} {es : List PE} : W (evalE C (.callF f es) ρ) σ Q = W (evalL C es ρ) σ (kCallF C f Q) := rfl
@[simp] theorem wE_callC {c : Cl} {es : List PE} : W (evalE C (.callC c es) ρ) σ Q = W (evalL C es ρ) σ (kCallC C c Q) := rfl
@[simp] theorem wE_callB {b : Bi} {es : List PE} : W (evalE C (.callB b es) ρ) σ Q = W (evalL C es ρ) σ (kCallB b Q) := rfl
@[simp] theorem wE_mlistOf {a : PE} : W (evalE C (.mlistOf a) ρ) σ Q = W (evalE C a ρ) σ (kMlistOf Q) := rfl
@[simp] theorem metG_some {m : Mt} {f : Fn} {o : PV} {vs : List PV} : metG C m (some f) o vs = C f (o :: vs) := rfl
@[simp] theorem metG_none {m : Mt} {o : PV} {vs : List PV} : metG C m none o vs = methV m o vs := rfl
@[simp] theorem wE_meth {a : PE} {m : Mt} {es : List PE} : W (evalE C (.meth a m es) ρ) σ Q = W (evalE C a ρ) σ (kMeth1 C m es ρ Q) := rfl
@[simp] theorem wE_comp {elt it : PE} {x : Nat} : W (evalE C (.comp elt x it) ρ) σ Q = W (evalE C it ρ) σ (kComp1 C elt x ρ Q) := rfl
@[simp] theorem wE_compIf {elt it c : PE} {x : Nat} : W (evalE C (.compIf elt x it c) ρ) σ Q = W (evalE C it ρ) σ (kCompIf1 C elt x c ρ Q) := rfl
@[simp] theorem wE_frz {n : Nat} {a : PE} : W (evalE C (.frz n a) ρ) σ Q = W (evalE C a ρ) σ (kFrz n Q) := rfl
@[simp] theorem wL_nil : W (evalL C [] ρ) σ QL = QL [] σ := rfl
@[simp] theorem wL_cons {e : PE} {es : List PE} : W (evalL C (e :: es) ρ) σ QL = W (evalE C e ρ) σ (kL1 C es ρ QL) := rfl
@[simp] theorem wS_assign {x : Nat} {e : PE} : W (execS C (.assign x e) ρ) σ QS = W (evalE C e ρ) σ (kAssign ρ x QS) := rfl
@[simp] theorem wS_assignT {xs : List Nat} {e : PE} : W (execS C (.assignT xs e) ρ) σ QS = W (evalE C e ρ) σ (kAssignT1 ρ xs QS) := rfl
@[simp] theorem wS_setAttr {o e : PE} {n : At} : W (execS C (.setAttr o n e) ρ) σ QS = W (evalE C e ρ) σ (kSetA1 C n o ρ QS) := rfl
@[simp] theorem wS_setSub {o i e : PE} : W (execS C (.setSub o i e) ρ) σ QS = W (evalE C e ρ) σ (kSetB1 C o i ρ QS) := rfl
@[simp] theorem wS_setSlice {o lo hi e : PE} : W (execS C (.setSlice o lo hi e) ρ) σ QS = W (evalE C e ρ) σ (kSetC1 C o lo hi ρ QS) := rfl
@[simp] theorem wS_ifs {c : PE} {t f : List PS} : W (execS C (.ifs c t f) ρ) σ QS = W (evalE C c ρ) σ (kIf C t f ρ QS) := rfl
@[simp] theorem wS_whiles {c : PE} {b : List PS} : W (execS C (.whiles c b) ρ) σ QS = W (whileN (evalE C c) (execL C b) ρ) σ QS := rfl
@[simp] theorem wS_fors {x : Nat} {it : PE} {b : List PS} : W (execS C (.fors x it b) ρ) σ QS = W (evalE C it ρ) σ (kFor1 C x b ρ QS) := rfl
@[simp] theorem wS_forsT {xs : List Nat} {it : PE} {b : List PS} : W (execS C (.forsT xs it b) ρ) σ QS = W (evalE C it ρ) σ (kForT1 C xs b ρ QS) := rfl
@[simp] theorem wS_ret {e : PE} : W (execS C (.ret e) ρ) σ QS = W (evalE C e ρ) σ (kRet ρ QS) := rfl
@[simp] theorem wS_brk : W (execS C .brk ρ) σ QS = QS (.brk, ρ) σ := rfl
@[simp] theorem wS_expr {e : PE} : W (execS C (.expr e) ρ) σ QS = W (evalE C e ρ) σ (kExpr ρ QS) := rfl
@[simp] theorem wS_frz {n x : Nat} : W (execS C (.frz n x) ρ) σ QS = W (M.ofOpt (ρ.get x)) σ (kFz1 n ρ x QS) := rfl
end
noncomputable def After (C : Fn → List PV → M PV) (r : List PS) (Q : Fl × Env → St → Prop) : Fl × Env → St → Prop := fun p σ' => W (seqM (execL C r) p) σ' Q
end Mine.B
namespace Mine
open PySem PyProof.V
set_option autoImplicit false

noncomputable def SK.str : SK → PySem.Str
  | .empty => "" | .zwj => "zwj" | .zwnj => "zwnj" | .hidden => "hidden" | .glyph => "glyph" | .class_ => "class" | .ligature => "ligature" | .base => "base" | .mark => "mark"
noncomputable def At.str : At → PySem.Str
  | .code => "code" | .glyph => "glyph" | .cluster => "cluster" | .mask => "mask" | .is_unsafe => "is_unsafe" | .lig_id => "lig_id" | .lig_part => "lig_part"
  | .lig_count => "lig_count" | .split_id => "split_id" | .kind => "kind" | .x_advance => "x_advance" | .y_advance => "y_advance" | .x_offset => "x_offset" | .y_offset => "y_offset"
  | .parent => "parent" | .bond => "bond" | .row => "row" | .is_backward => "is_backward" | .last_lig => "last_lig" | .last_split => "last_split" | .flag => "flag"
  | .mark_set => "mark_set" | .tables => "tables" | .buffer => "buffer" | .gdef => "gdef" | .lookups => "lookups" | .lookup => "lookup" | .depth => "depth" | .steps => "steps"
  | .sets => "sets" | .classes => "classes" | .attach => "attach" | .points => "points" | .carets => "carets"
noncomputable def At.all : List At := [.code, .glyph, .cluster, .mask, .is_unsafe, .lig_id, .lig_part, .lig_count, .split_id, .kind, .x_advance, .y_advance, .x_offset, .y_offset,
  .parent, .bond, .row, .is_backward, .last_lig, .last_split, .flag, .mark_set, .tables, .buffer, .gdef, .lookups, .lookup, .depth, .steps, .sets, .classes, .attach, .points, .carets]
noncomputable def atNames : List PySem.Str := At.all.map At.str
theorem At.mem_all (n : At) : n ∈ At.all := by cases n <;> decide
theorem At.mem_names (n : At) : n.str ∈ atNames := List.mem_map_of_mem n.mem_all
theorem At.str_inj_all : (At.all.all fun a => At.all.all fun b => (a == b) || !(a.str == b.str)) = true := by decide +kernel
theorem At.str_inj {a b : At} (h : a.str = b.str) : a = b := by
  have := List.all_eq_true.mp (List.all_eq_true.mp At.str_inj_all a a.mem_all) b b.mem_all
  rw [h] at this
  simpa using this
noncomputable def SK.all : List SK := [.empty, .zwj, .zwnj, .hidden, .glyph, .class_, .ligature, .base, .mark]
theorem SK.mem_all (n : SK) : n ∈ SK.all := by cases n <;> decide
theorem SK.str_inj_all : (SK.all.all fun a => SK.all.all fun b => (a == b) || !(a.str == b.str)) = true := by decide +kernel
theorem SK.str_inj {a b : SK} (h : a.str = b.str) : a = b := by
  have := List.all_eq_true.mp (List.all_eq_true.mp SK.str_inj_all a a.mem_all) b b.mem_all
  rw [h] at this
  simpa using this

structure Cx where
  prog : Program
  w : World
  h₀ : Heap
  cA : Cl → Addr
  fA : Fn → Addr

structure Vw where
  ι : Nat → Addr × Addr
  Fz : Addr → Prop
  n : Nat
  h : Heap

noncomputable def Vw.at (X : Vw) (h : Heap) : Vw := ⟨X.ι, X.Fz, X.n, h⟩
noncomputable def Vw.fz (X : Vw) (N : Addr → Prop) : Vw := ⟨X.ι, fun b => X.Fz b ∨ N b, X.n, X.h⟩
noncomputable def sh (s : Shared) (h : Heap) (t : Tok) : Shared := { s with heap := h, toks := t }
noncomputable def InstAt (h : Heap) (a d C : Addr) (m : PySem.Str → Option Value) : Prop :=
  ∃ o, h.get? a = some o ∧ o.cls = .ref C ∧ (∀ c, o.data ≠ .cls c) ∧ o.dict = some d ∧ d ≠ a ∧ h.Ns1 d m ∧ Within m atNames

mutual
noncomputable def VR (c : Cx) (X : Vw) : PV → Value → Prop
  | .none, v => v = .none
  | .bool b, v => v = .bool b
  | .int i, v => ∃ t, v = .int i t
  | .str k, v => ∃ t, v = .str k.str t
  | .ref i, v => i < X.n ∧ v = .ref (X.ι i).1
  | .tup ps, v => ∃ a vs, v = .ref a ∧ X.Fz a ∧ X.h.IsTuple a vs.toArray ∧ ps.length ≤ 2 * LIM ∧ VRs c X ps vs
  | .lst ps, v => ∃ a vs, v = .ref a ∧ X.Fz a ∧ X.h.PlainList a vs.toArray ∧ ps.length ≤ 2 * LIM ∧ VRs c X ps vs
  | .dct ps, v => ∃ a kvs, v = .ref a ∧ X.Fz a ∧ a ≠ sysModules ∧ X.h.DictOf (intKind c.prog c.w) a kvs ∧ ps.length ≤ 2 * LIM ∧ VRk c X ps kvs
  | .inst k fs, v => ∃ a d m, v = .ref a ∧ X.Fz a ∧ X.Fz d ∧ InstAt X.h a d (c.cA k) m ∧ VRf c X fs m
  | .range lo hi, v => ∃ a t u k, v = .ref a ∧ X.Fz a ∧ IsRange X.h a lo hi 1 t u k ∧ fits lo = true ∧ fits hi = true
noncomputable def VRs (c : Cx) (X : Vw) : List PV → List Value → Prop
  | [], vs => vs = []
  | p :: ps, vs => ∃ v r, vs = v :: r ∧ VR c X p v ∧ VRs c X ps r
noncomputable def VRk (c : Cx) (X : Vw) : List (Int × PV) → List (Int × Value) → Prop
  | [], vs => vs = []
  | (k, p) :: ps, vs => ∃ v r, vs = (k, v) :: r ∧ VR c X p v ∧ VRk c X ps r
noncomputable def VRf (c : Cx) (X : Vw) : List (At × PV) → (PySem.Str → Option Value) → Prop
  | [], _ => True
  | (n, p) :: r, m => (∃ v, m n.str = some v ∧ VR c X p v) ∧ VRf c X r m
end

noncomputable def ObjR (c : Cx) (X : Vw) (ad : Addr × Addr) : PObj → Prop
  | .list ps => ad.1 = ad.2 ∧ ps.length ≤ 2 * LIM ∧ ∃ vs, X.h.PlainList ad.2 vs.toArray ∧ VRs c X ps vs
  | .dict ps => ad.1 = ad.2 ∧ ad.2 ≠ sysModules ∧ ps.length ≤ 2 * LIM ∧ ∃ kvs, X.h.DictOf (intKind c.prog c.w) ad.2 kvs ∧ VRk c X ps kvs
  | .inst k fs => X.Fz ad.1 ∧ (fs.map (·.1)).Nodup ∧ ∃ m, InstAt X.h ad.1 ad.2 (c.cA k) m ∧ VRf c X fs m

noncomputable def Live (σ : St) (i : Nat) (o : PObj) : Prop := σ[i]? = some (some o)
noncomputable def Mut (X : Vw) (σ : St) (b : Addr) : Prop := ∃ i o, Live σ i o ∧ (X.ι i).2 = b

structure Rel (c : Cx) (X : Vw) (σ : St) : Prop where
  len : X.n = σ.length
  base : ∀ b o, c.h₀.get? b = some o → X.Fz b ∧ X.h.get? b = some o
  fz : ∀ b, X.Fz b → ∃ o, X.h.get? b = some o
  live : ∀ i o, Live σ i o → ¬ X.Fz (X.ι i).2 ∧ ObjR c X (X.ι i) o
  inj : ∀ i j o o', Live σ i o → Live σ j o' → (X.ι i).2 = (X.ι j).2 → i = j
  mlt : ∀ i o, Live σ i o → ∃ ob, X.h.get? (X.ι i).2 = some ob

structure Nx (cur : Addr → Prop) (X : Vw) (σ : St) (X' : Vw) (σ' : St) : Prop where
  n : X.n ≤ X'.n
  ι : ∀ i, i < X.n → X'.ι i = X.ι i
  fz : ∀ b, X.Fz b → X'.Fz b
  fz' : ∀ b, X'.Fz b → X.Fz b ∨ X.h.get? b = none ∨ Mut X σ b
  mut' : ∀ b, Mut X' σ' b → Mut X σ b ∨ X.h.get? b = none
  alive : ∀ b o, X.h.get? b = some o → ∃ o', X'.h.get? b = some o'
  kept : ∀ b o, X.Fz b → X.h.get? b = some o → X'.h.get? b = some o
  keep : ∀ b o, X.h.get? b = some o → ¬ Mut X σ b → ¬ cur b → X'.h.get? b = some o

theorem Nx.refl {cur : Addr → Prop} (X : Vw) (σ : St) : Nx cur X σ X σ :=
  ⟨Nat.le_refl _, fun _ _ => rfl, fun _ h => h, fun _ h => .inl h, fun _ h => .inl h, fun _ o h => ⟨o, h⟩, fun _ _ _ h => h, fun _ _ h _ _ => h⟩
theorem Nx.unborn {cur : Addr → Prop} {X X' : Vw} {σ σ' : St} (a : Nx cur X σ X' σ') {b : Addr} (h : X'.h.get? b = none) : X.h.get? b = none := by
  cases e : X.h.get? b with
  | none => rfl
  | some o => obtain ⟨o', e'⟩ := a.alive b o e; rw [h] at e'; cases e'
theorem Nx.trans {cur : Addr → Prop} {X X' X'' : Vw} {σ σ' σ'' : St} (a : Nx cur X σ X' σ') (b : Nx cur X' σ' X'' σ'') : Nx cur X σ X'' σ'' where
  n := Nat.le_trans a.n b.n
  ι := fun i hi => (b.ι i (Nat.lt_of_lt_of_le hi a.n)).trans (a.ι i hi)
  fz := fun x h => b.fz x (a.fz x h)
  fz' := fun x h => by
    rcases b.fz' x h with h | h | h
    · exact a.fz' x h
    · exact .inr (.inl (a.unborn h))
    · rcases a.mut' x h with h | h
      · exact .inr (.inr h)
      · exact .inr (.inl h)
  mut' := fun x h => by
    rcases b.mut' x h with h | h
    · exact a.mut' x h
    · exact .inr (a.unborn h)
  alive := fun x o h => by obtain ⟨o', h'⟩ := a.alive x o h; exact b.alive x o' h'
  kept := fun x o f e => b.kept x o (a.fz x f) (a.kept x o f e)
  keep := fun x o e h hc => b.keep x o (a.keep x o e h hc) (fun q => by
    rcases a.mut' x q with q | q
    · exact h q
    · rw [q] at e; cases e) hc
theorem Nx.wider {cur cur' : Addr → Prop} {X X' : Vw} {σ σ' : St} (a : Nx cur X σ X' σ') (h : ∀ b, cur b → cur' b) : Nx cur' X σ X' σ' :=
  { a with keep := fun x o e q hc => a.keep x o e q fun z => hc (h x z) }

structure Le (X X' : Vw) : Prop where
  n : X.n ≤ X'.n
  ι : ∀ i, i < X.n → X'.ι i = X.ι i
  fz : ∀ b, X.Fz b → X'.Fz b
  kept : ∀ b o, X.Fz b → X.h.get? b = some o → X'.h.get? b = some o
theorem Nx.le {cur : Addr → Prop} {X X' : Vw} {σ σ' : St} (a : Nx cur X σ X' σ') : Le X X' := ⟨a.n, a.ι, a.fz, a.kept⟩
theorem Le.refl (X : Vw) : Le X X := ⟨Nat.le_refl _, fun _ _ => rfl, fun _ h => h, fun _ _ _ h => h⟩

section
variable {c : Cx} {X X' : Vw}
theorem Le.list (L : Le X X') {a : Addr} {items : Array Value} (f : X.Fz a) (h : X.h.PlainList a items) : X'.h.PlainList a items := by
  obtain ⟨n, ho⟩ := h; exact ⟨n, L.kept a _ f ho⟩
theorem Le.tuple (L : Le X X') {a : Addr} {items : Array Value} (f : X.Fz a) (h : X.h.IsTuple a items) : X'.h.IsTuple a items := by
  obtain ⟨o, ho, r⟩ := h; exact ⟨o, L.kept a o f ho, r⟩
theorem Le.dict (L : Le X X') {a : Addr} {kvs : List (Int × Value)} (f : X.Fz a) (h : X.h.DictOf (intKind c.prog c.w) a kvs) : X'.h.DictOf (intKind c.prog c.w) a kvs := by
  obtain ⟨o, es, ep, ho, r⟩ := h; exact ⟨o, es, ep, L.kept a o f ho, r⟩
theorem InstAt.keeps {h h' : Heap} {a d C : Addr} {m : PySem.Str → Option Value} (x : InstAt h a d C m) (ha : ∀ o, h.get? a = some o → h'.get? a = some o) (hd : ∀ o, h.get? d = some o → h'.get? d = some o) : InstAt h' a d C m := by
  obtain ⟨o, ho, e1, e2, e3, e4, e5, e6⟩ := x; exact ⟨o, ha o ho, e1, e2, e3, e4, e5.at hd, e6⟩

mutual
theorem VR.le (L : Le X X') : ∀ (p : PV) (v : Value), VR c X p v → VR c X' p v
  | .none, v, h => h
  | .bool _, v, h => h
  | .int _, v, h => h
  | .str _, v, h => h
  | .ref i, v, h => by
    obtain ⟨h1, h2⟩ := h
    exact ⟨Nat.lt_of_lt_of_le h1 L.n, by rw [L.ι i h1]; exact h2⟩
  | .tup ps, v, h => by
    obtain ⟨a, vs, e, f, t, l, r⟩ := h
    exact ⟨a, vs, e, L.fz a f, L.tuple f t, l, VRs.le L ps vs r⟩
  | .lst ps, v, h => by
    obtain ⟨a, vs, e, f, t, l, r⟩ := h
    exact ⟨a, vs, e, L.fz a f, L.list f t, l, VRs.le L ps vs r⟩
  | .dct ps, v, h => by
    obtain ⟨a, vs, e, f, g, t, l, r⟩ := h
    exact ⟨a, vs, e, L.fz a f, g, L.dict f t, l, VRk.le L ps vs r⟩
  | .inst k fs, v, h => by
    obtain ⟨a, d, m, e, f, g, t, r⟩ := h
    exact ⟨a, d, m, e, L.fz a f, L.fz d g, t.keeps (fun o => L.kept a o f) (fun o => L.kept d o g), VRf.le L fs m r⟩
  | .range lo hi, v, h => by
    obtain ⟨a, t, u, k, e, f, q, r⟩ := h
    exact ⟨a, t, u, k, e, L.fz a f, L.kept a _ f q, r⟩
theorem VRs.le (L : Le X X') : ∀ (ps : List PV) (vs : List Value), VRs c X ps vs → VRs c X' ps vs
  | [], _, h => h
  | p :: ps, vs, h => by
    obtain ⟨v, r, e, h1, h2⟩ := h
    exact ⟨v, r, e, VR.le L p v h1, VRs.le L ps r h2⟩
theorem VRk.le (L : Le X X') : ∀ (ps : List (Int × PV)) (vs : List (Int × Value)), VRk c X ps vs → VRk c X' ps vs
  | [], _, h => h
  | (k, p) :: ps, vs, h => by
    obtain ⟨v, r, e, h1, h2⟩ := h
    exact ⟨v, r, e, VR.le L p v h1, VRk.le L ps r h2⟩
theorem VRf.le (L : Le X X') : ∀ (ps : List (At × PV)) (m : PySem.Str → Option Value), VRf c X ps m → VRf c X' ps m
  | [], _, h => h
  | (n, p) :: ps, m, h => by
    obtain ⟨⟨v, e, h1⟩, h2⟩ := h
    exact ⟨⟨v, e, VR.le L p v h1⟩, VRf.le L ps m h2⟩
end

theorem VR.lst_i {ps : List PV} {a : Addr} {vs : List Value} (f : X.Fz a) (hl : X.h.PlainList a vs.toArray) (hn : ps.length ≤ 2 * LIM) (hv : VRs c X ps vs) : VR c X (.lst ps) (.ref a) := ⟨a, vs, rfl, f, hl, hn, hv⟩
theorem VR.tup_i {ps : List PV} {a : Addr} {vs : List Value} (f : X.Fz a) (hl : X.h.IsTuple a vs.toArray) (hn : ps.length ≤ 2 * LIM) (hv : VRs c X ps vs) : VR c X (.tup ps) (.ref a) := ⟨a, vs, rfl, f, hl, hn, hv⟩
theorem VR.dct_i {ps : List (Int × PV)} {a : Addr} {vs : List (Int × Value)} (f : X.Fz a) (ns : a ≠ sysModules) (hl : X.h.DictOf (intKind c.prog c.w) a vs) (hn : ps.length ≤ 2 * LIM) (hv : VRk c X ps vs) : VR c X (.dct ps) (.ref a) := ⟨a, vs, rfl, f, ns, hl, hn, hv⟩
theorem VR.inst_i {k : Cl} {fs : List (At × PV)} {a d : Addr} {m : PySem.Str → Option Value} (f : X.Fz a) (fd : X.Fz d) (I : InstAt X.h a d (c.cA k) m) (hf : VRf c X fs m) : VR c X (.inst k fs) (.ref a) := ⟨a, d, m, rfl, f, fd, I, hf⟩
theorem VRk.cons {k : Int} {p : PV} {ps : List (Int × PV)} {v : Value} {vs : List (Int × Value)} (h : VR c X p v) (hs : VRk c X ps vs) : VRk c X ((k, p) :: ps) ((k, v) :: vs) := ⟨v, vs, rfl, h, hs⟩
theorem VRf.cons {n : At} {p : PV} {fs : List (At × PV)} {m : PySem.Str → Option Value} {v : Value} (e : m n.str = some v) (h : VR c X p v) (hs : VRf c X fs m) : VRf c X ((n, p) :: fs) m := ⟨⟨v, e, h⟩, hs⟩
section
variable {v : Value} {P : Value → Prop}
@[elab_as_elim] theorem VR.int_e {i : Int} (h : VR c X (.int i) v) (q : ∀ t, P (.int i t)) : P v := by
  obtain ⟨t, rfl⟩ := h
  exact q t
@[elab_as_elim] theorem VR.str_e {k : SK} (h : VR c X (.str k) v) (q : ∀ t, P (.str k.str t)) : P v := by
  obtain ⟨t, rfl⟩ := h
  exact q t
@[elab_as_elim] theorem VR.ref_e {i : Nat} (h : VR c X (.ref i) v) (q : P (.ref (X.ι i).1)) : P v := by
  obtain ⟨_, rfl⟩ := h
  exact q
@[elab_as_elim] theorem VR.tup_e {ps : List PV} (h : VR c X (.tup ps) v) (q : ∀ a vs, X.Fz a → X.h.IsTuple a vs.toArray → ps.length ≤ 2 * LIM → VRs c X ps vs → P (.ref a)) : P v := by
  obtain ⟨a, vs, rfl, f, hl, hn, hv⟩ := h
  exact q a vs f hl hn hv
@[elab_as_elim] theorem VR.lst_e {ps : List PV} (h : VR c X (.lst ps) v) (q : ∀ a vs, X.Fz a → X.h.PlainList a vs.toArray → ps.length ≤ 2 * LIM → VRs c X ps vs → P (.ref a)) : P v := by
  obtain ⟨a, vs, rfl, f, hl, hn, hv⟩ := h
  exact q a vs f hl hn hv
@[elab_as_elim] theorem VR.dct_e {ps : List (Int × PV)} (h : VR c X (.dct ps) v) (q : ∀ a kvs, X.Fz a → a ≠ sysModules → X.h.DictOf (intKind c.prog c.w) a kvs → ps.length ≤ 2 * LIM → VRk c X ps kvs → P (.ref a)) : P v := by
  obtain ⟨a, vs, rfl, f, ns, hl, hn, hv⟩ := h
  exact q a vs f ns hl hn hv
@[elab_as_elim] theorem VR.inst_e {k : Cl} {fs : List (At × PV)} (h : VR c X (.inst k fs) v) (q : ∀ a d m, X.Fz a → X.Fz d → InstAt X.h a d (c.cA k) m → VRf c X fs m → P (.ref a)) : P v := by
  obtain ⟨a, d, m, rfl, f, fd, I, hf⟩ := h
  exact q a d m f fd I hf
@[elab_as_elim] theorem VR.range_e {lo hi : Int} (h : VR c X (.range lo hi) v) (q : ∀ a t u k, X.Fz a → IsRange X.h a lo hi 1 t u k → fits lo = true → fits hi = true → P (.ref a)) : P v := by
  obtain ⟨a, t, u, k, rfl, f, hr, h1, h2⟩ := h
  exact q a t u k f hr h1 h2
end
@[elab_as_elim] theorem VRs.one_e {P : List Value → Prop} {p : PV} {vs : List Value} (h : VRs c X [p] vs) (q : ∀ v, VR c X p v → P [v]) : P vs := by
  obtain ⟨v, r, rfl, h1, h2⟩ := h
  cases h2
  exact q v h1
@[elab_as_elim] theorem VRs.two_e {P : List Value → Prop} {p p' : PV} {vs : List Value} (h : VRs c X [p, p'] vs) (q : ∀ v u, VR c X p v → VR c X p' u → P [v, u]) : P vs := by
  obtain ⟨v, r, rfl, h1, h2⟩ := h
  refine h2.one_e fun u h2 => q v u h1 h2
section
variable {R : Prop} {ad : Addr × Addr}
theorem ObjR.list_e {ps : List PV} (h : ObjR c X ad (.list ps)) (q : ad.1 = ad.2 → ps.length ≤ 2 * LIM → ∀ vs n, X.h.get? ad.2 = some { cls := .type "list", data := .seq vs.toArray n } → VRs c X ps vs → R) : R := by
  obtain ⟨e, hn, vs, ⟨n, hl⟩, hv⟩ := h
  exact q e hn vs n hl hv
theorem ObjR.dict_e {ps : List (Int × PV)} (h : ObjR c X ad (.dict ps)) (q : ad.1 = ad.2 → ad.2 ≠ sysModules → ps.length ≤ 2 * LIM → ∀ vs, X.h.DictOf (intKind c.prog c.w) ad.2 vs → VRk c X ps vs → R) : R := by
  obtain ⟨e, ns, hn, vs, hl, hv⟩ := h
  exact q e ns hn vs hl hv
theorem ObjR.inst_e {k : Cl} {fs : List (At × PV)} (h : ObjR c X ad (.inst k fs)) (q : X.Fz ad.1 → (fs.map (·.1)).Nodup → ∀ m, InstAt X.h ad.1 ad.2 (c.cA k) m → VRf c X fs m → R) : R := by
  obtain ⟨f, nd, m, I, hf⟩ := h
  exact q f nd m I hf
end

theorem VRs.length {ps : List PV} {vs : List Value} (h : VRs c X ps vs) : vs.length = ps.length := by
  induction ps generalizing vs with
  | nil => cases h; rfl
  | cons p ps ih =>
    obtain ⟨v, r, rfl, _, h2⟩ := h
    exact congrArg Nat.succ (ih h2)
theorem VRs.get {ps : List PV} {vs : List Value} {i : Nat} {p : PV} (h : VRs c X ps vs) (e : ps[i]? = some p) : ∃ v, vs[i]? = some v ∧ VR c X p v := by
  induction ps generalizing vs i with
  | nil => exact nomatch e
  | cons q ps ih =>
    obtain ⟨v, r, rfl, h1, h2⟩ := h
    cases i with
    | zero => cases e; exact ⟨v, rfl, h1⟩
    | succ i => exact ih (vs := r) (i := i) h2 e
theorem VRs.nil : VRs c X [] [] := rfl
theorem VRs.cons {p : PV} {ps : List PV} {v : Value} {vs : List Value} (h : VR c X p v) (hs : VRs c X ps vs) : VRs c X (p :: ps) (v :: vs) := ⟨v, vs, rfl, h, hs⟩
theorem VRs.append {ps qs : List PV} {vs us : List Value} (h : VRs c X ps vs) (g : VRs c X qs us) : VRs c X (ps ++ qs) (vs ++ us) := by
  induction ps generalizing vs with
  | nil => cases h; exact g
  | cons p ps ih =>
    obtain ⟨v, r, rfl, h1, h2⟩ := h
    exact VRs.cons h1 (ih h2)
theorem VRs.take (n : Nat) {ps : List PV} {vs : List Value} (h : VRs c X ps vs) : VRs c X (ps.take n) (vs.take n) := by
  induction ps generalizing vs n with
  | nil => cases h; rw [List.take_nil, List.take_nil]; exact VRs.nil
  | cons p ps ih =>
    obtain ⟨v, r, rfl, h1, h2⟩ := h
    cases n with
    | zero => exact VRs.nil
    | succ n => exact VRs.cons h1 (ih n h2)
theorem VRs.drop (n : Nat) {ps : List PV} {vs : List Value} (h : VRs c X ps vs) : VRs c X (ps.drop n) (vs.drop n) := by
  induction ps generalizing vs n with
  | nil => cases h; rw [List.drop_nil, List.drop_nil]; exact VRs.nil
  | cons p ps ih =>
    obtain ⟨v, r, rfl, h1, h2⟩ := h
    cases n with
    | zero => exact VRs.cons h1 h2
    | succ n => exact ih n h2
theorem VRs.set (i : Nat) {ps : List PV} {vs : List Value} {p : PV} {v : Value} (h : VRs c X ps vs) (g : VR c X p v) : VRs c X (ps.set i p) (vs.set i v) := by
  induction ps generalizing vs i with
  | nil => cases h; exact VRs.nil
  | cons q ps ih =>
    obtain ⟨u, r, rfl, h1, h2⟩ := h
    cases i with
    | zero => exact VRs.cons g h2
    | succ i => exact VRs.cons h1 (ih i h2)
theorem VRs.replicate {p : PV} {v : Value} (h : VR c X p v) : ∀ n : Nat, VRs c X (List.replicate n p) (List.replicate n v)
  | 0 => by simp [VRs]
  | n + 1 => by simp only [List.replicate_succ]; exact VRs.cons h (VRs.replicate h n)
theorem map_some' {α β : Type} {f : α → β} {o : Option α} {b : β} (h : o.map f = some b) : ∃ a, o = some a ∧ f a = b := Option.map_eq_some_iff.mp h
theorem VRs.ints : ∀ {ps : List PV} {vs : List Value} {ns : List Int}, VRs c X ps vs → intsOf ps = some ns → PyProof.Rows.IntsAre vs ns := by
  intro ps
  induction ps with
  | nil => intro vs ns h e; cases h; cases e; exact .nil
  | cons p ps ih =>
    intro vs ns h e
    obtain ⟨i, rfl, e⟩ := onInt_some e
    obtain ⟨l, hl, rfl⟩ := map_some' e
    obtain ⟨v, r, rfl, ⟨t, rfl⟩, h2⟩ := h
    exact .cons _ _ (ih h2 hl)
theorem VRk.length {ps : List (Int × PV)} {vs : List (Int × Value)} (h : VRk c X ps vs) : vs.length = ps.length := by
  induction ps generalizing vs with
  | nil => cases h; rfl
  | cons p ps ih =>
    obtain ⟨v, r, rfl, _, h2⟩ := h
    exact congrArg Nat.succ (ih h2)
theorem VRk.keys {ps : List (Int × PV)} {vs : List (Int × Value)} (h : VRk c X ps vs) : vs.map (·.1) = ps.map (·.1) := by
  induction ps generalizing vs with
  | nil => cases h; rfl
  | cons p ps ih =>
    obtain ⟨v, r, rfl, _, h2⟩ := h
    exact congrArg (List.cons p.1) (ih h2)
end
theorem bind_e {α β : Type} {o : Option α} {f : α → Option β} {r : β} {R : Prop} (h : o.bind f = some r) (q : ∀ a, o = some a → f a = some r → R) : R := by
  cases o with
  | none => exact no h
  | some a => exact q a rfl h
end Mine
namespace Mine
open PySem PyProof.V
set_option autoImplicit false
variable {c : Cx} {X X' : Vw} {σ σ' : St}

theorem Live.lt {i : Nat} {o : PObj} (h : Live σ i o) : i < σ.length := (List.getElem?_eq_some_iff.mp h).1
theorem ObjR.le (L : Le X X') {ad : Addr × Addr} {o : PObj} (hk : ∀ o, X.h.get? ad.2 = some o → X'.h.get? ad.2 = some o) (h : ObjR c X ad o) : ObjR c X' ad o := by
  cases o with
  | list ps =>
    obtain ⟨e, l, vs, ⟨n, ho⟩, hv⟩ := h
    exact ⟨e, l, vs, ⟨n, hk _ ho⟩, VRs.le L ps vs hv⟩
  | dict ps =>
    obtain ⟨e, s, l, vs, ⟨ob, es, ep, ho, r⟩, hv⟩ := h
    exact ⟨e, s, l, vs, ⟨ob, es, ep, hk ob ho, r⟩, VRk.le L ps vs hv⟩
  | inst k fs =>
    obtain ⟨f, nd, m, hi, hv⟩ := h
    exact ⟨L.fz _ f, nd, m, hi.keeps (fun o => L.kept _ o f) hk, VRf.le L fs m hv⟩

theorem Rel.heap (R : Rel c X σ) {h' : Heap} (hk : ∀ b o, X.h.get? b = some o → (X.Fz b ∨ Mut X σ b) → h'.get? b = some o) :
    Rel c (X.at h') σ := by
  have L : Le X (X.at h') := ⟨Nat.le_refl _, fun _ _ => rfl, fun _ h => h, fun b o f e => hk b o e (.inl f)⟩
  refine ⟨R.len, fun b o e => ⟨(R.base b o e).1, hk b o (R.base b o e).2 (.inl (R.base b o e).1)⟩, fun b f => ?_, fun i o l => ⟨(R.live i o l).1, ObjR.le L (fun ob e => hk _ ob e (.inr ⟨i, o, l, rfl⟩)) (R.live i o l).2⟩, R.inj, fun i o l => ?_⟩
  · obtain ⟨o, e⟩ := R.fz b f; exact ⟨o, hk b o e (.inl f)⟩
  · obtain ⟨ob, e⟩ := R.mlt i o l; exact ⟨ob, hk _ ob e (.inr ⟨i, o, l, rfl⟩)⟩
theorem Nx.heap (cur : Addr → Prop) {h' : Heap} (ha : ∀ b o, X.h.get? b = some o → ∃ o', h'.get? b = some o') (hk : ∀ b o, X.h.get? b = some o → ¬ cur b → h'.get? b = some o) (hc : ∀ b, X.Fz b → ¬ cur b) :
    Nx cur X σ (X.at h') σ :=
  ⟨Nat.le_refl _, fun _ _ => rfl, fun _ h => h, fun _ h => .inl h, fun _ h => .inl h, ha, fun b o f e => hk b o e (hc b f), fun b o e _ c => hk b o e c⟩

theorem born_ne {h h' : Heap} (hk : ∀ b o, h.get? b = some o → h'.get? b = some o) : ∀ b o, h.get? b = some o → ∃ o', h'.get? b = some o' := fun b o e => ⟨o, hk b o e⟩
theorem Rel.more (R : Rel c X σ) {h' : Heap} (N : Addr → Prop) (hk : ∀ b o, X.h.get? b = some o → h'.get? b = some o)
    (hn : ∀ b, N b → X.h.get? b = none ∧ ∃ o, h'.get? b = some o) :
    Rel c { X with h := h', Fz := fun b => X.Fz b ∨ N b } σ ∧ Nx (fun _ => False) X σ { X with h := h', Fz := fun b => X.Fz b ∨ N b } σ := by
  have L : Le X { X with h := h', Fz := fun b => X.Fz b ∨ N b } := ⟨Nat.le_refl _, fun _ _ => rfl, fun _ h => .inl h, fun b o _ e => hk b o e⟩
  refine ⟨⟨R.len, fun b o e => ⟨.inl (R.base b o e).1, hk b o (R.base b o e).2⟩, fun b f => ?_, fun i o l => ⟨?_, ObjR.le L (fun ob e => hk _ ob e) (R.live i o l).2⟩, R.inj, fun i o l => ?_⟩,
    ⟨Nat.le_refl _, fun _ _ => rfl, fun _ h => .inl h, fun b f => ?_, fun _ h => .inl h, born_ne hk, fun b o _ e => hk b o e, fun b o e _ _ => hk b o e⟩⟩
  · rcases f with f | f
    · obtain ⟨o, e⟩ := R.fz b f; exact ⟨o, hk b o e⟩
    · exact (hn b f).2
  · rintro (f | f)
    · exact (R.live i o l).1 f
    · obtain ⟨ob, e⟩ := R.mlt i o l; rw [(hn _ f).1] at e; cases e
  · obtain ⟨ob, e⟩ := R.mlt i o l; exact ⟨ob, hk _ ob e⟩
  · rcases f with f | f
    · exact .inl f
    · exact .inr (.inl (hn b f).1)

noncomputable def putι (X : Vw) (ad : Addr × Addr) : Nat → Addr × Addr := fun i => if i = X.n then ad else X.ι i
theorem Rel.alloc (R : Rel c X σ) {h' : Heap} {ad : Addr × Addr} {o : PObj} (N : Addr → Prop) (hk : ∀ b o, X.h.get? b = some o → h'.get? b = some o)
    (hn : ∀ b, N b → X.h.get? b = none ∧ ∃ o, h'.get? b = some o) (hd : X.h.get? ad.2 = none ∧ ∃ o, h'.get? ad.2 = some o) (hN : ¬ N ad.2)
    (ho : ObjR c ⟨putι X ad, fun b => X.Fz b ∨ N b, X.n + 1, h'⟩ ad o) :
    Rel c ⟨putι X ad, fun b => X.Fz b ∨ N b, X.n + 1, h'⟩ (σ ++ [some o]) ∧ Nx (fun _ => False) X σ ⟨putι X ad, fun b => X.Fz b ∨ N b, X.n + 1, h'⟩ (σ ++ [some o]) := by
  have old : ∀ i, i < X.n → putι X ad i = X.ι i := fun i hi => if_neg (Nat.ne_of_lt hi)
  have L : Le X ⟨putι X ad, fun b => X.Fz b ∨ N b, X.n + 1, h'⟩ := ⟨Nat.le_succ _, old, fun _ h => .inl h, fun b o _ e => hk b o e⟩
  have get : ∀ i o', Live (σ ++ [some o]) i o' → (i < X.n ∧ Live σ i o') ∨ (i = X.n ∧ o' = o) := fun i o' l => by
    unfold Live at l
    by_cases hi : i < σ.length
    · rw [List.getElem?_append_left hi] at l; exact .inl ⟨by rw [R.len]; exact hi, l⟩
    · rw [List.getElem?_append_right (Nat.not_lt.mp hi)] at l
      have : i - σ.length = 0 := by
        have := (List.getElem?_eq_some_iff.mp l).1
        simp at this; omega
      rw [this] at l
      simp at l
      exact .inr ⟨by rw [R.len]; omega, l.symm⟩
  have dead : ∀ {b : Addr}, X.h.get? b = none → ¬ X.Fz b := fun e f => by obtain ⟨o, e'⟩ := R.fz _ f; rw [e] at e'; cases e'
  have deadm : ∀ {b : Addr}, X.h.get? b = none → ∀ i o', Live σ i o' → (X.ι i).2 ≠ b := fun e i o' l z => by obtain ⟨ob, e'⟩ := R.mlt i o' l; rw [z, e] at e'; cases e'
  have en : putι X ad X.n = ad := if_pos rfl
  refine ⟨⟨by rw [List.length_append, ← R.len]; rfl, fun b o e => ⟨.inl (R.base b o e).1, hk b o (R.base b o e).2⟩, fun b f => ?_, fun i o' l => ?_, fun i j o₁ o₂ l₁ l₂ e => ?_, fun i o' l => ?_⟩,
    ⟨Nat.le_succ _, old, fun _ h => .inl h, fun b f => ?_, fun b m => ?_, born_ne hk, fun b o _ e => hk b o e, fun b o e _ _ => hk b o e⟩⟩
  · rcases f with f | f
    · obtain ⟨o, e⟩ := R.fz b f; exact ⟨o, hk b o e⟩
    · exact (hn b f).2
  · rcases get i o' l with ⟨hi, l⟩ | ⟨rfl, rfl⟩
    · show ¬ _ ∧ ObjR _ _ (putι X ad i) o'
      rw [show (Vw.ι ⟨putι X ad, fun b => X.Fz b ∨ N b, X.n + 1, h'⟩ i) = X.ι i from old i hi, old i hi]
      refine ⟨?_, ObjR.le L (fun ob e => hk _ ob e) (R.live i o' l).2⟩
      rintro (f | f)
      · exact (R.live i o' l).1 f
      · exact deadm (hn _ f).1 i o' l rfl
    · show ¬ _ ∧ ObjR _ _ (putι X ad X.n) o'
      rw [show (Vw.ι ⟨putι X ad, fun b => X.Fz b ∨ N b, X.n + 1, h'⟩ X.n) = ad from en, en]
      exact ⟨fun f => f.elim (dead hd.1) hN, ho⟩
  · have e' : (putι X ad i).2 = (putι X ad j).2 := e
    rcases get i o₁ l₁ with ⟨hi, m₁⟩ | ⟨rfl, rfl⟩ <;> rcases get j o₂ l₂ with ⟨hj, m₂⟩ | ⟨rfl, rfl⟩
    · rw [old i hi, old j hj] at e'; exact R.inj i j o₁ o₂ m₁ m₂ e'
    · rw [old i hi, en] at e'; exact absurd e' (deadm hd.1 i o₁ m₁)
    · rw [old j hj, en] at e'; exact absurd e'.symm (deadm hd.1 j o₂ m₂)
    · rfl
  · show ∃ ob, h'.get? (putι X ad i).2 = some ob
    rcases get i o' l with ⟨hi, l⟩ | ⟨rfl, rfl⟩
    · rw [old i hi]; obtain ⟨ob, e⟩ := R.mlt i o' l; exact ⟨ob, hk _ ob e⟩
    · rw [en]; exact hd.2
  · rcases f with f | f
    · exact .inl f
    · exact .inr (.inl (hn b f).1)
  · obtain ⟨i, o', l, e⟩ := m
    have e' : (putι X ad i).2 = b := e
    rcases get i o' l with ⟨hi, l⟩ | ⟨rfl, rfl⟩
    · rw [old i hi] at e'; exact .inl ⟨i, o', l, e'⟩
    · rw [en] at e'; exact .inr (e' ▸ hd.1)

theorem live_set {i j : Nat} {o o' : PObj} (h : Live (σ.set i (some o)) j o') : (j = i ∧ o' = o) ∨ (j ≠ i ∧ Live σ j o') := by
  unfold Live at h
  rw [List.getElem?_set] at h
  by_cases e : i = j
  · subst e
    simp only [if_true] at h
    split at h
    · simp at h; exact .inl ⟨rfl, h.symm⟩
    · simp at h
  · rw [if_neg e] at h; exact .inr ⟨fun z => e z.symm, h⟩
theorem live_erase {i j : Nat} {o' : PObj} (h : Live (σ.set i none) j o') : j ≠ i ∧ Live σ j o' := by
  unfold Live at h
  rw [List.getElem?_set] at h
  by_cases e : i = j
  · subst e
    simp only [if_true] at h
    split at h <;> simp at h
  · rw [if_neg e] at h; exact ⟨fun z => e z.symm, h⟩

theorem Rel.update (R : Rel c X σ) {i : Nat} {o₀ o : PObj} (l : Live σ i o₀) {h' : Heap} (hs : ∀ b ob, b ≠ (X.ι i).2 → X.h.get? b = some ob → h'.get? b = some ob) (hi : ∃ ob, h'.get? (X.ι i).2 = some ob) (ho : ObjR c (X.at h') (X.ι i) o) :
    Rel c (X.at h') (σ.set i (some o)) ∧ Nx (fun _ => False) X σ (X.at h') (σ.set i (some o)) := by
  have nf := (R.live i o₀ l).1
  have kept : ∀ b o, X.Fz b → X.h.get? b = some o → h'.get? b = some o := fun b o f e => hs b o (fun z => nf (z ▸ f)) e
  have alive : ∀ b o, X.h.get? b = some o → ∃ o', h'.get? b = some o' := fun b o e => by
    by_cases z : b = (X.ι i).2
    · subst z; exact hi
    · exact ⟨o, hs b o z e⟩
  have L : Le X (X.at h') := ⟨Nat.le_refl _, fun _ _ => rfl, fun _ h => h, kept⟩
  refine ⟨⟨by rw [List.length_set]; exact R.len, fun b o e => ⟨(R.base b o e).1, kept b o (R.base b o e).1 (R.base b o e).2⟩, fun b f => ?_, fun j o' m => ?_, fun j k o₁ o₂ m₁ m₂ e => ?_, fun j o' m => ?_⟩,
    ⟨Nat.le_refl _, fun _ _ => rfl, fun _ h => h, fun _ f => .inl f, fun b m => ?_, alive, kept, fun b o e nm _ => hs b o (fun z => nm (z ▸ ⟨i, o₀, l, rfl⟩)) e⟩⟩
  · obtain ⟨o, e⟩ := R.fz b f; exact ⟨o, kept b o f e⟩
  · rcases live_set m with ⟨rfl, rfl⟩ | ⟨hj, m⟩
    · exact ⟨nf, ho⟩
    · exact ⟨(R.live j o' m).1, ObjR.le L (fun ob e => hs _ ob (fun z => hj (R.inj j i o' o₀ m l z)) e) (R.live j o' m).2⟩
  · have back : ∀ j o', Live (σ.set i (some o)) j o' → ∃ o'', Live σ j o'' := fun j o' m => by
      rcases live_set m with ⟨rfl, _⟩ | ⟨_, m⟩
      · exact ⟨_, l⟩
      · exact ⟨_, m⟩
    obtain ⟨a, ha⟩ := back j o₁ m₁
    obtain ⟨b, hb⟩ := back k o₂ m₂
    exact R.inj j k a b ha hb e
  · rcases live_set m with ⟨rfl, _⟩ | ⟨_, m⟩
    · obtain ⟨ob, e⟩ := R.mlt _ _ l; exact alive _ ob e
    · obtain ⟨ob, e⟩ := R.mlt _ _ m; exact alive _ ob e
  · obtain ⟨j, o', m, e⟩ := m
    rcases live_set m with ⟨rfl, _⟩ | ⟨_, m⟩
    · exact .inl ⟨_, _, l, e⟩
    · exact .inl ⟨_, _, m, e⟩

theorem Rel.freeze (R : Rel c X σ) {i : Nat} {o₀ : PObj} (l : Live σ i o₀) :
    Rel c { X with Fz := fun b => X.Fz b ∨ b = (X.ι i).2 } (σ.set i none) ∧ Nx (fun _ => False) X σ { X with Fz := fun b => X.Fz b ∨ b = (X.ι i).2 } (σ.set i none) := by
  have L : Le X { X with Fz := fun b => X.Fz b ∨ b = (X.ι i).2 } := ⟨Nat.le_refl _, fun _ _ => rfl, fun _ h => .inl h, fun _ _ _ e => e⟩
  refine ⟨⟨by rw [List.length_set]; exact R.len, fun b o e => ⟨.inl (R.base b o e).1, (R.base b o e).2⟩, fun b f => ?_, fun j o' m => ?_, fun j k o₁ o₂ m₁ m₂ e => ?_, fun j o' m => R.mlt j o' (live_erase m).2⟩,
    ⟨Nat.le_refl _, fun _ _ => rfl, fun _ h => .inl h, fun b f => ?_, fun b m => ?_, fun _ o e => ⟨o, e⟩, fun _ _ _ e => e, fun _ _ e _ _ => e⟩⟩
  · rcases f with f | rfl
    · exact R.fz b f
    · exact R.mlt i o₀ l
  · obtain ⟨hj, m⟩ := live_erase m
    refine ⟨?_, ObjR.le L (fun _ e => e) (R.live j o' m).2⟩
    rintro (f | f)
    · exact (R.live j o' m).1 f
    · exact hj (R.inj j i o' o₀ m l f)
  · exact R.inj j k o₁ o₂ (live_erase m₁).2 (live_erase m₂).2 e
  · rcases f with f | rfl
    · exact .inl f
    · exact .inr (.inr ⟨i, o₀, l, rfl⟩)
  · obtain ⟨j, o', m, e⟩ := m
    exact .inl ⟨j, o', (live_erase m).2, e⟩

noncomputable def Post (c : Cx) (cur : Addr → Prop) (X : Vw) (σ : St) (s : Shared) (σ' : St) (P : Vw → Prop) (s' : Shared) : Prop :=
  ∃ X', X'.h = s'.heap ∧ (∃ h t, s' = { s with heap := h, toks := t }) ∧ Rel c X' σ' ∧ Nx cur X σ X' σ' ∧ P X'

theorem Post.same {cur : Addr → Prop} {s : Shared} {P : Vw → Prop} (hX : X.h = s.heap) (R : Rel c X σ) (p : P X) (t : Tok) : Post c cur X σ s σ P { s with toks := t } :=
  ⟨X, hX, ⟨s.heap, t, rfl⟩, R, Nx.refl X σ, p⟩
theorem Post.here {cur : Addr → Prop} {s : Shared} {P : Vw → Prop} (hX : X.h = s.heap) (R : Rel c X σ) (p : P X) : Post c cur X σ s σ P s :=
  ⟨X, hX, ⟨s.heap, s.toks, rfl⟩, R, Nx.refl X σ, p⟩
theorem Post.trans {cur : Addr → Prop} {s s' s'' : Shared} {σ'' : St} {P : Vw → Prop} {X₁ : Vw} (e : ∃ h t, s' = { s with heap := h, toks := t }) (N : Nx cur X σ X₁ σ')
    (q : Post c cur X₁ σ' s' σ'' P s'') : Post c cur X σ s σ'' P s'' := by
  obtain ⟨X', hX, ⟨h, t, rfl⟩, R, N', p⟩ := q
  obtain ⟨h₁, t₁, rfl⟩ := e
  exact ⟨X', hX, ⟨h, t, rfl⟩, R, N.trans N', p⟩
theorem Post.mono {cur : Addr → Prop} {s s' : Shared} {P Q : Vw → Prop} (q : Post c cur X σ s σ' P s') (h : ∀ X', Le X X' → P X' → Q X') : Post c cur X σ s σ' Q s' := by
  obtain ⟨X', hX, e, R, N, p⟩ := q
  exact ⟨X', hX, e, R, N, h X' N.le p⟩
theorem Post.wider {cur cur' : Addr → Prop} {s s' : Shared} {P : Vw → Prop} (q : Post c cur X σ s σ' P s') (h : ∀ b, cur b → cur' b) : Post c cur' X σ s σ' P s' := by
  obtain ⟨X', hX, e, R, N, p⟩ := q
  exact ⟨X', hX, e, R, N.wider h, p⟩

abbrev none' : Addr → Prop := fun _ => False
abbrev NoE : Value → Shared → Prop := fun _ _ => False

structure EnvOk (c : Cx) (X : Vw) (σ : St) (sm : List (PySem.Str × Nat)) (env : PySem.Env) (ρ : Mine.Env) : Prop where
  kind : env.scope.kind = .function
  glob : env.globals = mainGlobals
  blt : env.builtins = builtinsNs
  loc : ∃ m, X.h.Ns env.locals m ∧ ∀ x k pv, sm.lookup x = some k → ρ.get k = some pv → env.kindOf x = some .local → ∃ v, m x = some v ∧ VR c X pv v
  lf : ¬ X.Fz env.locals ∧ ¬ Mut X σ env.locals
  cells : ∀ x, (env.kindOf x = some .cell ∨ env.kindOf x = some .free) → ∃ a u, env.cells.lookup x = some a ∧ X.h.IsCell a u ∧ ¬ X.Fz a ∧ ¬ Mut X σ a ∧
    ∀ k pv, sm.lookup x = some k → ρ.get k = some pv → ∃ v, u = some v ∧ VR c X pv v
  apart : ∀ x y a, env.cells.lookup x = some a → env.cells.lookup y = some a → x = y

theorem EnvOk.next {sm : List (PySem.Str × Nat)} {env : PySem.Env} {ρ : Mine.Env} (e : EnvOk c X σ sm env ρ) (N : Nx none' X σ X' σ') : EnvOk c X' σ' sm env ρ := by
  have stay : ∀ a o, X.h.get? a = some o → ¬ X.Fz a → ¬ Mut X σ a → ¬ X'.Fz a ∧ ¬ Mut X' σ' a := fun a o hl hf hm => ⟨fun f => by
      rcases N.fz' a f with q | q | q
      · exact hf q
      · rw [q] at hl; cases hl
      · exact hm q, fun f => by
      rcases N.mut' a f with q | q
      · exact hm q
      · rw [q] at hl; cases hl⟩
  obtain ⟨m, hn, hv⟩ := e.loc
  refine ⟨e.kind, e.glob, e.blt, ⟨m, hn.at' fun o ho => N.keep _ o ho e.lf.2 id, fun x k pv h1 h2 h3 => ?_⟩, (by obtain ⟨o, _, _, ho, _⟩ := hn; exact stay _ o ho e.lf.1 e.lf.2), fun x hx => ?_, e.apart⟩
  · obtain ⟨v, g, r⟩ := hv x k pv h1 h2 h3
    exact ⟨v, g, VR.le N.le pv v r⟩
  · obtain ⟨a, u, g, hc, f, q, r⟩ := e.cells x hx
    obtain ⟨o, ho, hd⟩ := hc
    obtain ⟨f', q'⟩ := stay a o ho f q
    refine ⟨a, u, g, ⟨o, N.keep _ o ho q id, hd⟩, f', q', fun k pv h1 h2 => ?_⟩
    obtain ⟨v, g, t⟩ := r k pv h1 h2
    exact ⟨v, g, VR.le N.le pv v t⟩

structure Now (c : Cx) where
  X : Vw
  σ : St
  s : Shared
  hX : X.h = s.heap
  R : Rel c X σ
structure To {c : Cx} (cur : Addr → Prop) (a b : Now c) : Prop where
  sh : ∃ h t, b.s = sh a.s h t
  nx : Nx cur a.X a.σ b.X b.σ
section
variable {m n : Now c} {cur : Addr → Prop} {α β : Type}
theorem To.refl (m : Now c) : To cur m m := ⟨⟨_, _, rfl⟩, Nx.refl _ _⟩
theorem To.trans {k : Now c} (a : To cur m n) (b : To cur n k) : To cur m k := by
  obtain ⟨h, t, e⟩ := a.sh
  obtain ⟨h', t', e'⟩ := b.sh
  exact ⟨⟨h', t', by rw [e', e]; rfl⟩, a.nx.trans b.nx⟩
theorem To.any (a : To none' m n) : To cur m n := ⟨a.sh, a.nx.wider fun _ z => z.elim⟩
theorem To.le (a : To cur m n) : Le m.X n.X := a.nx.le
noncomputable def Ends (cur : Addr → Prop) (V : Now c → β → α → Prop) (m : Now c) (Q : β → St → Prop) (v : α) (s' : Shared) : Prop :=
  ∃ (n : Now c) (r : β), n.s = s' ∧ To cur m n ∧ V n r v ∧ Q r n.σ
variable {V : Now c → β → α → Prop} {Q : β → St → Prop} {r : β} {v : α} {s s' : Shared} {A : Around} {t : Sem α}
theorem Ends.ret (h : V m r v) (q : Q r m.σ) : Ends cur V m Q v m.s := ⟨m, r, rfl, To.refl m, h, q⟩
theorem Ends.to (a : To cur m n) (h : Ends cur V n Q v s) : Ends cur V m Q v s := by
  obtain ⟨k, r, e, b, h⟩ := h
  exact ⟨k, r, e, a.trans b, h⟩
theorem Ends.ret' (e : m.s = s) (h : V m r v) (q : Q r m.σ) : Ends cur V m Q v s := ⟨m, r, e, To.refl m, h, q⟩
theorem Ends.on {α' β' : Type} {V' : Now c → β' → α' → Prop} {Q' : β' → St → Prop} {v' : α'} (h : Ends cur V m Q v s) (k : ∀ n r, n.s = s → To cur m n → V n r v → Q r n.σ → Ends cur V' n Q' v' s) : Ends cur V' m Q' v' s := by
  obtain ⟨n, r, e, t, h1, h2⟩ := h
  exact (k n r e t h1 h2).to t
theorem Post.ends {P : Vw → Prop} (q : Post c cur m.X m.σ m.s σ' P s') (h : ∀ n : Now c, n.σ = σ' → P n.X → V n r v) (hq : Q r σ') : Ends cur V m Q v s' := by
  obtain ⟨X', e, es, R, N, p⟩ := q
  exact ⟨⟨X', σ', s', e, R⟩, r, rfl, ⟨es, N⟩, h ⟨X', σ', s', e, R⟩ rfl p, hq⟩
theorem sub {P : α → Shared → Prop} {E : Value → Shared → Prop} (h : wpAny (model c.prog c.w) A t (Ends cur V m Q) NoE s) (k : ∀ v n r, To cur m n → V n r v → Q r n.σ → P v n.s) : wpAny (model c.prog c.w) A t P E s :=
  wpAny_mono h (fun v s' ⟨n, r, e, a, b, q⟩ => e ▸ k v n r a b q) fun _ _ z => z.elim
theorem fin (a : To cur m n) (h : wpAny (model c.prog c.w) A t (Ends cur V n Q) NoE s) : wpAny (model c.prog c.w) A t (Ends cur V m Q) NoE s := wpAny_mono h (fun v s' q => q.to a) fun _ _ z => z
noncomputable def Now.tok (m : Now c) (t : Tok) : Now c := ⟨m.X, m.σ, (sh m.s m.s.heap t), m.hX, m.R⟩
theorem To.tok {t : Tok} : To cur m (m.tok t) := ⟨⟨_, _, rfl⟩, Nx.refl _ _⟩
theorem Ends.tok {t : Tok} (h : V (m.tok t) r v) (q : Q r m.σ) : Ends cur V m Q v (sh m.s m.s.heap t) := ⟨m.tok t, r, rfl, To.tok, h, q⟩
noncomputable def Now.grow (m : Now c) (h' : Heap) (hk : ∀ b o, m.s.heap.get? b = some o → h'.get? b = some o) : Now c := ⟨(m.X.at h'), m.σ, sh m.s h' m.s.toks, rfl, m.R.heap fun b o e _ => hk b o (m.hX ▸ e)⟩
theorem To.grow {h' : Heap} {hk : ∀ b o, m.s.heap.get? b = some o → h'.get? b = some o} : To cur m (m.grow h' hk) :=
  To.any ⟨⟨h', m.s.toks, rfl⟩, Nx.heap _ (born_ne fun b o e => hk b o (m.hX ▸ e)) (fun b o e _ => hk b o (m.hX ▸ e)) fun _ _ z => z⟩
theorem Now.old (m : Now c) {b : Addr} {o : Obj} (e : c.h₀.get? b = some o) : m.s.heap.get? b = some o := m.hX ▸ (m.R.base b o e).2
end
noncomputable def VN (n : Now c) (p : PV) (v : Value) : Prop := VR c n.X p v
noncomputable def VNs (n : Now c) (p : List PV) (v : List Value) : Prop := VRs c n.X p v
noncomputable def TN (_ : Now c) (p : PV) (b : Bool) : Prop := truth p = some b
noncomputable def UN {α : Type} (_ : Now c) (_ : Unit) (_ : α) : Prop := True
theorem Ends.retV {cur : Addr → Prop} {m : Now c} {Q : PV → St → Prop} {v : Value} (r : PV) (h : VR c m.X r v) (q : Q r m.σ) : Ends cur VN m Q v m.s := Ends.ret h q
theorem Ends.tokV {cur : Addr → Prop} {m : Now c} {Q : PV → St → Prop} {v : Value} {t : Tok} (r : PV) (h : VR c m.X r v) (q : Q r m.σ) : Ends cur VN m Q v (sh m.s m.s.heap t) := Ends.tok h q
noncomputable def Wp (A : Around) (t : Sem Value) (m : Now c) (Q : PV → St → Prop) : Prop := wpAny (model c.prog c.w) A t (Ends none' VN m Q) NoE m.s
theorem Wp.sub {m : Now c} {A : Around} {t : Sem Value} {Q : PV → St → Prop} {P : Value → Shared → Prop} {E : Value → Shared → Prop} (h : Wp A t m Q) (k : ∀ v n r, To none' m n → VR c n.X r v → Q r n.σ → P v n.s) : wpAny (model c.prog c.w) A t P E m.s := Mine.sub h k
theorem ofP {m : Now c} {r : PV} {A : Around} {t : Sem Value} {Q : PV → St → Prop} (h : wpAny (model c.prog c.w) A t (fun v s' => Post c none' m.X m.σ m.s σ' (fun X' => VR c X' r v) s') NoE m.s) (q : Q r σ') : wpAny (model c.prog c.w) A t (Ends none' VN m Q) NoE m.s :=
  wpAny_mono h (fun _ _ p => p.ends (fun _ _ z => z) q) fun _ _ z => z
end Mine
namespace Mine
open PySem PyProof.V
set_option autoImplicit false
variable {c : Cx} {X : Vw}

mutual
noncomputable def toPy : PV → PyData
  | .bool b => .bool b
  | .int i => .int i
  | .str k => .str k.str
  | .tup vs => .tuple (toPys vs)
  | .lst vs => .list (toPys vs)
  | _ => .none
noncomputable def toPys : List PV → List PyData
  | [] => []
  | v :: vs => toPy v :: toPys vs
end

theorem VR.reads : ∀ (n : Nat) (p : PV) (v : Value), VR c X p v → flatN n p = true → ∃ as, Reads X.h v (toPy p) as := by
  have all : ∀ (n : Nat), (∀ (p : PV) (v : Value), VR c X p v → flatN n p = true → ∃ as, Reads X.h v (toPy p) as) → ∀ (ps : List PV) (vs : List Value), VRs c X ps vs → ps.all (flatN n) = true → ∃ as, ReadsAll X.h vs (toPys ps) as := by
    intro n ih ps
    induction ps with
    | nil => intro vs h _; cases h; exact ⟨_, .nil⟩
    | cons p ps ih' =>
      intro vs h hf
      obtain ⟨v, r, rfl, h1, h2⟩ := h
      simp only [List.all_cons, Bool.and_eq_true] at hf
      obtain ⟨as, ra⟩ := ih p v h1 hf.1
      obtain ⟨bs, rb⟩ := ih' r h2 hf.2
      exact ⟨_, .cons ra rb⟩
  intro n
  induction n with
  | zero =>
    intro p v h hf
    cases p with
    | none => cases h; exact ⟨_, .none⟩
    | bool b => cases h; exact ⟨_, .bool b⟩
    | int i => obtain ⟨t, rfl⟩ := h; exact ⟨_, .int i t⟩
    | str k => obtain ⟨t, rfl⟩ := h; exact ⟨_, .str _ t⟩
    | _ => exact (Bool.false_ne_true hf).elim
  | succ n ih =>
    intro p v h hf
    cases p with
    | none => cases h; exact ⟨_, .none⟩
    | bool b => cases h; exact ⟨_, .bool b⟩
    | int i => obtain ⟨t, rfl⟩ := h; exact ⟨_, .int i t⟩
    | str k => obtain ⟨t, rfl⟩ := h; exact ⟨_, .str _ t⟩
    | tup ps =>
      obtain ⟨a, vs, rfl, _, ⟨o, ho, hc, k, hd⟩, _, hv⟩ := h
      obtain ⟨as, ra⟩ := all n ih ps vs hv hf
      exact ⟨_, .tuple ho hc hd ra⟩
    | lst ps =>
      obtain ⟨a, vs, rfl, _, hpl, _, hv⟩ := h
      obtain ⟨o, ho, hc, k, hd⟩ := hpl.isList
      obtain ⟨as, ra⟩ := all n ih ps vs hv hf
      exact ⟨_, .list ho hc hd ra⟩
    | _ => exact (Bool.false_ne_true hf).elim

theorem SK.strOk (k : SK) : PyData.strOk k.str = true := by cases k <;> decide +kernel

theorem flat_atom {p : PV} (h : flatN 0 p = true) : (toPy p).canLay0 = true ∧ (toPy p).depth = 0 := by
  cases p with
  | none => exact ⟨rfl, rfl⟩
  | bool b => exact ⟨rfl, rfl⟩
  | int i => exact ⟨rfl, rfl⟩
  | str k => exact ⟨SK.strOk k, rfl⟩
  | _ => exact (Bool.false_ne_true h).elim
theorem flat_lay : ∀ (n : Nat) (p : PV), flatN n p = true → (toPy p).canLay0 = true ∧ (toPy p).depth ≤ n := by
  have all : ∀ (n : Nat), (∀ p, flatN n p = true → (toPy p).canLay0 = true ∧ (toPy p).depth ≤ n) → ∀ ps : List PV, ps.all (flatN n) = true → PyData.canLayAll0 (toPys ps) = true ∧ PyData.depthAll (toPys ps) ≤ n := by
    intro n ih ps
    induction ps with
    | nil => exact fun _ => ⟨rfl, Nat.zero_le _⟩
    | cons p ps hi =>
      intro h
      obtain ⟨h1, h2⟩ := Bool.and_eq_true_iff.mp h
      obtain ⟨a1, a2⟩ := ih p h1
      obtain ⟨b1, b2⟩ := hi h2
      rw [toPys, PyData.canLayAll0, PyData.depthAll, a1, b1]
      exact ⟨rfl, Nat.max_le.mpr ⟨a2, b2⟩⟩
  intro n
  induction n with
  | zero => exact fun p h => ⟨(flat_atom h).1, Nat.le_of_eq (flat_atom h).2⟩
  | succ n ih =>
    intro p h
    cases p with
    | tup ps =>
      have q := all n ih ps h
      rw [toPy, PyData.canLay0, PyData.depth]
      exact ⟨q.1, by have := q.2; with_reducible exact O.a34c (by assumption)⟩
    | lst ps =>
      have q := all n ih ps h
      rw [toPy, PyData.canLay0, PyData.depth]
      exact ⟨q.1, by have := q.2; with_reducible exact O.a34c (by assumption)⟩
    | none => exact ⟨rfl, Nat.zero_le _⟩
    | bool b => exact ⟨rfl, Nat.zero_le _⟩
    | int i => exact ⟨rfl, Nat.zero_le _⟩
    | str k => exact ⟨SK.strOk k, Nat.zero_le _⟩
    | _ => exact (Bool.false_ne_true h).elim
theorem flat_shaped {p : PV} (h : flatN 6 p = true) : SeqAt.shaped (toPy p) = true := by
  have q := flat_lay 6 p h
  unfold SeqAt.shaped
  rw [q.1, Bool.true_and]
  exact decide_eq_true (Nat.le_trans q.2 (by decide))

theorem str_beq (a b : SK) : (a.str == b.str) = (a == b) := by
  by_cases h : a = b
  · subst h; simp
  · have : a.str ≠ b.str := fun e => h (SK.str_inj e)
    rw [beq_eq_false_iff_ne.mpr this, beq_eq_false_iff_ne.mpr h]

mutual
theorem pvEq_eqv : ∀ (a b : PV) (r : Bool), pvEq a b = some r → PyData.eqv (toPy a) (toPy b) = r
  | .none, b, r, h => by obtain ⟨rfl, h⟩ := onNone_some h; cases h; rfl
  | .int a, b, r, h => by obtain ⟨b, rfl, h⟩ := onInt_some h; cases h; rw [toPy, toPy, PyData.eqv]
  | .bool a, b, r, h => by obtain ⟨b, rfl, h⟩ := onBool_some h; cases h; rw [toPy, toPy, PyData.eqv]
  | .str a, b, r, h => by obtain ⟨b, rfl, h⟩ := onStr_some h; cases h; rw [toPy, toPy, PyData.eqv, str_beq]
  | .tup a, b, r, h => by obtain ⟨b, rfl, h⟩ := onTup_some h; rw [toPy, toPy, PyData.eqv]; exact pvsEq_eqv a b r h
  | .lst a, b, r, h => by obtain ⟨b, rfl, h⟩ := onLst_some h; rw [toPy, toPy, PyData.eqv]; exact pvsEq_eqv a b r h
  | .ref _, _, _, h => no h
  | .dct _, _, _, h => no h
  | .inst _ _, _, _, h => no h
  | .range _ _, _, _, h => no h
theorem pvsEq_eqv : ∀ (a b : List PV) (r : Bool), pvsEq a b = some r → PyData.eqvAll (toPys a) (toPys b) = r
  | [], [], r, h => by cases h; rfl
  | [], _ :: _, r, h => by cases h; rfl
  | _ :: _, [], r, h => by cases h; rfl
  | a :: as, b :: bs, r, h => by
    obtain ⟨x, y, hx, hy, rfl⟩ := and2_some h
    rw [toPys, toPys, PyData.eqvAll, pvEq_eqv a b x hx, pvsEq_eqv as bs y hy]
end

theorem inV_eqv (v : PV) : ∀ (vs : List PV) (r : Bool), inV v vs = some r → ((toPys vs).any fun y => PyData.eqv y (toPy v)) = r := by
  intro vs
  induction vs with
  | nil => intro r h; cases h; rfl
  | cons x xs ih =>
    intro r h
    obtain ⟨a, ha, h⟩ := Option.bind_eq_some_iff.mp h
    obtain ⟨b, hb, h⟩ := Option.bind_eq_some_iff.mp h
    cases h
    rw [toPys, List.any_cons, pvEq_eqv x v a ha, ih b hb]

section
variable {A : Around} {E : Value → Shared → Prop} {s : Shared} {a b : Value} {p q : PV} {r : Bool} {Q : Value → Shared → Prop}
theorem snd_eq (hX : X.h = s.heap) (ha : VR c X p a) (hb : VR c X q b) (fa : flatN 6 p = true) (fb : flatN 6 q = true) (h : pvEq p q = some r) (hu : A.units + 64 < cLine) (k : Q (.bool r) s) :
    wpAny (model c.prog c.w) A (compareOp .Eq a b) Q E s := by
  obtain ⟨as, ra⟩ := ha.reads 6 _ _ fa
  obtain ⟨bs, rb⟩ := hb.reads 6 _ _ fb
  rw [hX] at ra rb
  exact SeqAt.compareEq_shaped ra rb (flat_shaped fa) (flat_shaped fb) hu (by rw [pvEq_eqv p q r h]; exact k)
theorem snd_ne (hX : X.h = s.heap) (ha : VR c X p a) (hb : VR c X q b) (fa : flatN 6 p = true) (fb : flatN 6 q = true) (h : pvEq p q = some r) (hu : A.units + 64 < cLine) (k : Q (.bool (!r)) s) :
    wpAny (model c.prog c.w) A (compareOp .NotEq a b) Q E s := by
  obtain ⟨as, ra⟩ := ha.reads 6 _ _ fa
  obtain ⟨bs, rb⟩ := hb.reads 6 _ _ fb
  rw [hX] at ra rb
  exact SeqAt.compareNe_shaped ra rb (flat_shaped fa) (flat_shaped fb) hu (by rw [pvEq_eqv p q r h]; exact k)

theorem flat_items {vs : List PV} (h : flatN 6 (.lst vs) = true ∨ flatN 6 (.tup vs) = true) : PyData.canLayAll0 (toPys vs) = true ∧ PyData.depthAll (toPys vs) ≤ 5 := by
  have q : (toPy (.lst vs)).canLay0 = true ∧ (toPy (.lst vs)).depth ≤ 6 := flat_lay 6 (.lst vs) (h.elim id id)
  rw [toPy] at q
  simp only [PyData.canLay0, PyData.depth] at q
  have q2 := q.2
  exact ⟨q.1, by omega⟩
theorem snd_in {vs : List PV} (hX : X.h = s.heap) (ha : VR c X p a) (hb : VR c X q b) (fa : flatN 6 p = true) (fb : flatN 6 q = true) (hq : seqItems q = some vs) (h : inV p vs = some r) (hu : A.units + 64 < cLine) (k : Q (.bool r) s) :
    wpAny (model c.prog c.w) A (compareOp .In a b) Q E s := by
  obtain ⟨as, ra⟩ := ha.reads 6 _ _ fa
  obtain ⟨bs, rb⟩ := hb.reads 6 _ _ fb
  rw [hX] at ra rb
  have la := (flat_lay 6 p fa).1
  have e := inV_eqv p vs r h
  cases q with
  | tup us =>
    cases hq
    have lb := flat_items (vs := vs) (.inr fb)
    rw [toPy] at rb
    refine SeqAt.in_tuple_reads rb ra lb.1 la ?_ (by rw [e]; exact k)
    have := Nat.min_le_left (PyData.depthAll (toPys vs)) (toPy p).depth
    omega
  | lst us =>
    cases hq
    have lb := flat_items (vs := vs) (.inl fb)
    rw [toPy] at rb
    refine SeqAt.in_list_reads rb ra lb.1 la ?_ (by rw [e]; exact k)
    have := Nat.min_le_left (PyData.depthAll (toPys vs)) (toPy p).depth
    omega
  | _ => cases hq
theorem snd_notin {vs : List PV} (hX : X.h = s.heap) (ha : VR c X p a) (hb : VR c X q b) (fa : flatN 6 p = true) (fb : flatN 6 q = true) (hq : seqItems q = some vs) (h : inV p vs = some r) (hu : A.units + 64 < cLine) (k : Q (.bool (!r)) s) :
    wpAny (model c.prog c.w) A (compareOp .NotIn a b) Q E s := by
  obtain ⟨as, ra⟩ := ha.reads 6 _ _ fa
  obtain ⟨bs, rb⟩ := hb.reads 6 _ _ fb
  rw [hX] at ra rb
  have la := (flat_lay 6 p fa).1
  have e := inV_eqv p vs r h
  cases q with
  | tup us =>
    cases hq
    have lb := flat_items (vs := vs) (.inr fb)
    rw [toPy] at rb
    refine SeqAt.notIn_tuple_reads rb ra lb.1 la ?_ (by rw [e]; exact k)
    have := Nat.min_le_left (PyData.depthAll (toPys vs)) (toPy p).depth
    omega
  | lst us =>
    cases hq
    have lb := flat_items (vs := vs) (.inl fb)
    rw [toPy] at rb
    refine SeqAt.notIn_list_reads rb ra lb.1 la ?_ (by rw [e]; exact k)
    have := Nat.min_le_left (PyData.depthAll (toPys vs)) (toPy p).depth
    omega
  | _ => cases hq

theorem VRk.at : ∀ {ps : List (Int × PV)} {kvs : List (Int × Value)} {k : Int} {p : PV} (i : Nat), VRk c X ps kvs → ps[i]? = some (k, p) → ∃ v, kvs[i]? = some (k, v) ∧ VR c X p v
  | [], _, _, _, _, _, e => by simp at e
  | (k, p) :: ps, kvs, k', p', 0, h, e => by
    obtain ⟨v, r, rfl, h1, h2⟩ := h
    simp at e
    obtain ⟨rfl, rfl⟩ := e
    exact ⟨v, rfl, h1⟩
  | (k, p) :: ps, kvs, k', p', i + 1, h, e => by
    obtain ⟨v, r, rfl, h1, h2⟩ := h
    obtain ⟨u, g, t⟩ := VRk.at i h2 (by simpa using e)
    exact ⟨u, by simpa using g, t⟩
theorem kvsEq_keys : ∀ {ps qs : List (Int × PV)} {r : Bool}, kvsEq ps qs = some r → ps.length = qs.length := by
  intro ps
  induction ps with
  | nil =>
    intro qs r h
    cases qs with
    | nil => rfl
    | cons => exact no h
  | cons p ps ih =>
    intro qs r h
    cases qs with
    | nil => exact no h
    | cons q qs =>
      obtain ⟨x, y, hx, hy, _⟩ := and2_some (onTrue_some h).2
      rw [List.length_cons, List.length_cons, ih hy]
theorem snd_dicts {kb : List (Int × Value)} (hX : X.h = s.heap) (hn : (kb.map (·.1)).Nodup) (hu : A.units + 64 < cLine) :
    ∀ {ps' qs' : List (Int × PV)} {ka' kb₀ kb' : List (Int × Value)} {r : Bool}, VRk c X ps' ka' → VRk c X qs' kb' → kb = kb₀ ++ kb' → (ps'.all fun p => flatN 6 p.2) = true → (qs'.all fun p => flatN 6 p.2) = true → kvsEq ps' qs' = some r →
      PySem.W.KeqHits A s kb ka' r := by
  intro ps'
  induction ps' with
  | nil =>
    intro qs' ka' kb₀ kb' r ha hb e fa fb h
    cases qs' with
    | nil => cases ha; cases h; exact .nil
    | cons => exact no h
  | cons p as ih =>
    intro qs' ka' kb₀ kb' r ha hb e fa fb h
    cases qs' with
    | nil => exact no h
    | cons q bs =>
      obtain ⟨k, a⟩ := p
      obtain ⟨l, b⟩ := q
      obtain ⟨v, ra, rfl, ha1, ha2⟩ := ha
      obtain ⟨u, rb, rfl, hb1, hb2⟩ := hb
      obtain ⟨fa1, fa2⟩ := Bool.and_eq_true_iff.mp fa
      obtain ⟨fb1, fb2⟩ := Bool.and_eq_true_iff.mp fb
      obtain ⟨hk, h⟩ := onTrue_some h
      obtain ⟨x, y, hx, hy, rfl⟩ := and2_some h
      obtain rfl : k = l := eq_of_beq hk
      have hv : valueAt kb k = some u := valueAt_of_get hn (i := kb₀.length) (by rw [e]; simp)
      obtain ⟨as', r1⟩ := ha1.reads 6 _ _ fa1
      obtain ⟨bs', r2⟩ := hb1.reads 6 _ _ fb1
      rw [hX] at r1 r2
      have eq := SeqAt.eqAt_reads (toPy a) (toPy b) A s v u as' bs' r1 r2 (flat_lay 6 a fa1).1 (flat_lay 6 b fb1).1 (SeqAt.room_of_shaped (flat_shaped fa1) hu)
      rw [pvEq_eqv a b x hx] at eq
      exact .hit hv eq (ih ha2 hb2 (kb₀ := kb₀ ++ [(k, u)]) (by rw [e, List.append_assoc]; rfl) fa2 fb2 hy)
theorem dct_ne {a : Addr} (h : a ≠ sysModules) : (a == sysModules) = false := beq_eq_false_iff_ne.mpr h
theorem snd_dct_eq {ps qs : List (Int × PV)} (hX : X.h = s.heap) (ha : VR c X (.dct ps) a) (hb : VR c X (.dct qs) b) (fa : (ps.all fun p => flatN 6 p.2) = true) (fb : (qs.all fun p => flatN 6 p.2) = true) (h : kvsEq ps qs = some r)
    (hu : A.units + 65 < cLine) (k : Q (.bool r) s) : wpAny (model c.prog c.w) A (compareOp .Eq a b) Q E s := by
  obtain ⟨x, ka, rfl, _, nx, dx, _, vx⟩ := ha
  obtain ⟨y, kb, rfl, _, ny, dy, _, vy⟩ := hb
  rw [hX] at dx dy
  have hn : (kb.map (·.1)).Nodup := by obtain ⟨_, _, _, _, _, _, _, _, n⟩ := dy; exact n
  refine PySem.W.keq_eq (r := r) (dct_ne nx) (dct_ne ny) dx dy (by with_reducible exact O.a26h (by assumption)) (fun _ => snd_dicts (kb₀ := []) hX hn (by show A.units + 1 + 64 < cLine; omega) vx vy rfl fa fb h) ?_
  rw [vx.length, vy.length, kvsEq_keys h, beq_self_eq_true, Bool.true_and]; exact k
theorem snd_dct_ne {ps qs : List (Int × PV)} (hX : X.h = s.heap) (ha : VR c X (.dct ps) a) (hb : VR c X (.dct qs) b) (fa : (ps.all fun p => flatN 6 p.2) = true) (fb : (qs.all fun p => flatN 6 p.2) = true) (h : kvsEq ps qs = some r)
    (hu : A.units + 65 < cLine) (k : Q (.bool (!r)) s) : wpAny (model c.prog c.w) A (compareOp .NotEq a b) Q E s := by
  obtain ⟨x, ka, rfl, _, nx, dx, _, vx⟩ := ha
  obtain ⟨y, kb, rfl, _, ny, dy, _, vy⟩ := hb
  rw [hX] at dx dy
  have hn : (kb.map (·.1)).Nodup := by obtain ⟨_, _, _, _, _, _, _, _, n⟩ := dy; exact n
  refine PySem.W.keq_ne (r := r) (dct_ne nx) (dct_ne ny) dx dy (by with_reducible exact O.a26h (by assumption)) (fun _ => snd_dicts (kb₀ := []) hX hn (by show A.units + 1 + 64 < cLine; omega) vx vy rfl fa fb h) ?_
  rw [vx.length, vy.length, kvsEq_keys h, beq_self_eq_true, Bool.true_and]; exact k
end
end Mine
namespace Mine
open PySem PyProof.V PyProof.Rows
set_option linter.unusedVariables false
set_option autoImplicit false
variable {c : Cx} {X : Vw} {σ σ' : St} {A : Around} {s : Shared}

theorem post_new {cur : Addr → Prop} {s : Shared} {h' : Heap} {t : Tok} {P : Vw → Prop} (R : Rel c X σ) (N : Addr → Prop) (hk : ∀ b o, X.h.get? b = some o → h'.get? b = some o)
    (hn : ∀ b, N b → X.h.get? b = none ∧ ∃ o, h'.get? b = some o) (p : Le X { X with h := h', Fz := fun b => X.Fz b ∨ N b } → P { X with h := h', Fz := fun b => X.Fz b ∨ N b }) : Post c cur X σ s σ P { s with heap := h', toks := t } := by
  obtain ⟨R', N'⟩ := R.more N hk hn
  exact ⟨_, rfl, ⟨h', t, rfl⟩, R', N'.wider (fun _ f => f.elim), p N'.le⟩
theorem post_push {cur : Addr → Prop} {s : Shared} {o : Obj} {t : Tok} {P : Vw → Prop} (hX : X.h = s.heap) (R : Rel c X σ) (hf : o.isFreed = false)
    (p : Le X { X with h := s.heap.push o, Fz := fun b => X.Fz b ∨ b = s.heap.objs.size } → P { X with h := s.heap.push o, Fz := fun b => X.Fz b ∨ b = s.heap.objs.size }) : Post c cur X σ s σ P { s with heap := s.heap.push o, toks := t } :=
  post_new R (fun b => b = s.heap.objs.size) (fun b o' e => Heap.get?_push_of_some _ (hX ▸ e)) (fun b e => by subst e; rw [hX]; exact ⟨Heap.get?_none_of_le (Nat.le_refl _), _, Heap.get?_push_size _ hf⟩) p
theorem post_push2 {cur : Addr → Prop} {s : Shared} {o₁ o : Obj} {t : Tok} {P : Vw → Prop} (hX : X.h = s.heap) (R : Rel c X σ) (hf : o.isFreed = false)
    (p : Le X { X with h := (s.heap.push o₁).push o, Fz := fun b => X.Fz b ∨ b = s.heap.objs.size + 1 } → P { X with h := (s.heap.push o₁).push o, Fz := fun b => X.Fz b ∨ b = s.heap.objs.size + 1 }) : Post c cur X σ s σ P { s with heap := (s.heap.push o₁).push o, toks := t } :=
  post_new R (fun b => b = s.heap.objs.size + 1) (fun b o' e => Heap.get?_push_of_some _ (Heap.get?_push_of_some _ (hX ▸ e)))
    (fun b e => by subst e; rw [hX]; exact ⟨Heap.get?_none_of_le (Nat.le_succ _), o, by have := Heap.get?_push_size (s.heap.push o₁) hf; rwa [Heap.size_push] at this⟩) p

theorem lim_le : (2 * LIM : Nat) ≤ sizeLine := by rw [sizeLine_eq]; decide
theorem list_new {h : Heap} {o : Obj} {vs : List Value} (ho : o = { cls := .type "list", data := .seq vs.toArray }) : (h.push o).PlainList h.objs.size vs.toArray := by
  subst ho; exact ⟨0, Heap.get?_push_size _ rfl⟩
theorem tuple_new {h : Heap} {o : Obj} {vs : List Value} (ho : o = { cls := .type "tuple", data := .seq vs.toArray }) : (h.push o).IsTuple h.objs.size vs.toArray := by
  subst ho; exact ⟨_, Heap.get?_push_size _ rfl, rfl, 0, rfl⟩

theorem post_list {cur : Addr → Prop} {s : Shared} {ps : List PV} {vs : List Value} {t : Tok} (hX : X.h = s.heap) (R : Rel c X σ) (hv : VRs c X ps vs) (hl : ps.length ≤ 2 * LIM) :
    Post c cur X σ s σ (fun X' => VR c X' (.lst ps) (.ref s.heap.objs.size)) { s with heap := s.heap.push { cls := .type "list", data := .seq vs.toArray }, toks := t } :=
  post_push hX R rfl fun L => ⟨_, vs, rfl, .inr rfl, list_new rfl, hl, VRs.le L _ _ hv⟩
theorem post_tuple {cur : Addr → Prop} {s : Shared} {ps : List PV} {vs : List Value} {t : Tok} (hX : X.h = s.heap) (R : Rel c X σ) (hv : VRs c X ps vs) (hl : ps.length ≤ 2 * LIM) :
    Post c cur X σ s σ (fun X' => VR c X' (.tup ps) (.ref s.heap.objs.size)) { s with heap := s.heap.push { cls := .type "tuple", data := .seq vs.toArray }, toks := t } :=
  post_push hX R rfl fun L => ⟨_, vs, rfl, .inr rfl, tuple_new rfl, hl, VRs.le L _ _ hv⟩

noncomputable def BOp.op : BOp → Operator
  | .add => .Add | .sub => .Sub | .mul => .Mult | .fdiv => .FloorDiv | .mod => .Mod | .band => .BitAnd

theorem big_bits {a : Int} (h : fits a = true) : Builtin.Int.intBits a ≤ 64 := by
  rw [fits_of] at h
  exact intBits_le_64 (by omega) (by omega)
theorem fits_log {b : Int} (h : fits b = true) : b.natAbs.log2 < 9000 := by
  rw [fits_of] at h
  by_cases hb : b.natAbs = 0
  · rw [hb]; decide
  · exact Nat.lt_trans ((Nat.log2_lt hb).mpr (by omega : b.natAbs < 2 ^ 62)) (by decide)
theorem mul_ok {a b : Int} (h : mulOk a b = true) : IntMulOk a b := by
  unfold mulOk at h
  unfold IntMulOk
  intro q
  simp only [Bool.and_eq_true, decide_eq_true_eq] at q
  rcases Bool.or_eq_true_iff.mp h with h | h
  · have := big_bits h; exact absurd q.1.1 (by unfold shortFactorBits; omega)
  · have := big_bits h; exact absurd q.1.2 (by unfold shortFactorBits; omega)

theorem bin_lst {xs ys : List PV} {a b : Value} (hX : X.h = s.heap) (R : Rel c X σ) (ha : VR c X (.lst xs) a) (hb : VR c X (.lst ys) b) (hl : xs.length + ys.length < LIM) :
    wpAny (model c.prog c.w) A (binaryOp .Add a b) (fun v s' => Post c none' X σ s σ (fun X' => VR c X' (.lst (xs ++ ys)) v) s') NoE s := by
  obtain ⟨l, vs, rfl, fl, ⟨n, ho⟩, _, hv⟩ := ha
  obtain ⟨k, ws, rfl, fk, ⟨n2, ho2⟩, _, hw⟩ := hb
  rw [hX] at ho ho2
  have e : vs.toArray ++ ws.toArray = (vs ++ ws).toArray := by simp
  have e1 := hv.length
  have e2 := hw.length
  refine concat_meets ⟨_, ho, rfl⟩ ⟨_, ho2, rfl⟩ noFill_list_add seq_list_add PySem.F.slot_list_add PySem.F.entry_list_add (PySem.F.args_list_add_2 _ _)
    (list_addW l k vs.toArray ws.toArray n n2 none none #[] #[] (by have := lim_le; simp; omega)) ⟨ho, ho2, ?_⟩
  rw [e]
  exact post_list hX R (hv.append hw) (by simp; omega)
theorem bin_tup {xs ys : List PV} {a b : Value} (hX : X.h = s.heap) (R : Rel c X σ) (ha : VR c X (.tup xs) a) (hb : VR c X (.tup ys) b) (hl : xs.length + ys.length < LIM) :
    wpAny (model c.prog c.w) A (binaryOp .Add a b) (fun v s' => Post c none' X σ s σ (fun X' => VR c X' (.tup (xs ++ ys)) v) s') NoE s := by
  obtain ⟨l, vs, rfl, fl, ⟨⟨cls, dd, data, sl⟩, ho, hc, n, hd⟩, l1, hv⟩ := id ha
  obtain ⟨k, ws, rfl, fk, ⟨⟨cls2, dd2, data2, sl2⟩, ho2, hc2, n2, hd2⟩, l2, hw⟩ := id hb
  simp only at hc hd hc2 hd2
  subst hc hd hc2 hd2
  rw [hX] at ho ho2
  have e : vs.toArray ++ ws.toArray = (vs ++ ws).toArray := by simp
  have e1 := hv.length
  have e2 := hw.length
  by_cases hv0 : vs = []
  · have : xs = [] := by rw [hv0] at e1; exact List.length_eq_zero_iff.mp e1.symm
    subst this
    exact concat_meets ⟨_, ho, rfl⟩ ⟨_, ho2, rfl⟩ noFill_tuple_add seq_tuple_add PySem.F.slot_tuple_add PySem.F.entry_tuple_add (PySem.F.args_tuple_add_2 _ _)
      (tuple_addW0 l k vs.toArray ws.toArray n n2 dd dd2 sl sl2 (by simp [hv0])) ⟨ho, ho2, Post.same hX R hb _⟩
  · by_cases hw0 : ws = []
    · have : ys = [] := by rw [hw0] at e2; exact List.length_eq_zero_iff.mp e2.symm
      subst this
      rw [List.append_nil]
      exact concat_meets ⟨_, ho, rfl⟩ ⟨_, ho2, rfl⟩ noFill_tuple_add seq_tuple_add PySem.F.slot_tuple_add PySem.F.entry_tuple_add (PySem.F.args_tuple_add_2 _ _)
        (tuple_addW1 l k vs.toArray ws.toArray n n2 dd dd2 sl sl2 (by simpa using hv0) (by simp [hw0])) ⟨ho, ho2, Post.same hX R ha _⟩
    · refine concat_meets ⟨_, ho, rfl⟩ ⟨_, ho2, rfl⟩ noFill_tuple_add seq_tuple_add PySem.F.slot_tuple_add PySem.F.entry_tuple_add (PySem.F.args_tuple_add_2 _ _)
        (tuple_addW2 l k vs.toArray ws.toArray n n2 dd dd2 sl sl2 (by simpa using hv0) (by simpa using hw0) (by have := lim_le; simp; omega)) ⟨ho, ho2, ?_⟩
      rw [e]
      exact post_tuple hX R (hv.append hw) (by simp; omega)
theorem bin_rep {x : PV} {y : Int} {a b : Value} (hX : X.h = s.heap) (R : Rel c X σ) (ha : VR c X (.lst [x]) a) (hb : VR c X (.int y) b) (hy : 0 ≤ y ∧ y < 1000) :
    wpAny (model c.prog c.w) A (binaryOp .Mult a b) (fun v s' => Post c none' X σ s σ (fun X' => VR c X' (.lst (List.replicate y.toNat x)) v) s') NoE s := by
  obtain ⟨l, vs, rfl, fl, ⟨n, ho⟩, l1, hv⟩ := id ha
  obtain ⟨u, rfl⟩ := hb
  rw [hX] at ho
  obtain ⟨v, r, rfl, hv1, hv2⟩ := hv
  cases hv2
  · have hsz' : [v].toArray.size * y.toNat ≤ 1000 := by
      show 1 * y.toNat ≤ 1000
      omega
    refine wpAny_binaryOp_repeat_ref (T := "list") (U := "int") (by decide) ⟨_, ho, rfl⟩ (fun s' => typeIs_int s' y u) noFill_list_mul PySem.F.fills_int_mul PySem.F.slot_int_rmul repeat_list PySem.F.slot_int_index.lookup
      (call_meets PySem.F.slot_int_rmul (typeIs_int s y u) PySem.F.entry_int_rmul (PySem.F.args_int_rmul_2 _ _) (lm_int_rmul_list_any y u l [v].toArray n none #[])
        ⟨ho, rfl, ⟨_, ho, rfl⟩, call_meets PySem.F.slot_list_mul ⟨_, ho, rfl⟩ PySem.F.entry_list_mul (PySem.F.args_list_mul_2 _ _)
          (lm_list_mul_any l [v].toArray n none #[] y u (by simp [Builtin.List.listFitsIndex]; omega) (by omega) (by simp [Builtin.List.listTooLong, sizeLine]; omega))
          ⟨ho, ?_⟩⟩)
    rw [listMul_foldl_if]
    have hf : (List.replicate y.toNat [v]).flatten = List.replicate y.toNat v := by
      induction y.toNat with
      | zero => rfl
      | succ k ih => rw [List.replicate_succ, List.flatten_cons, ih, List.replicate_succ]; rfl
    rw [hf]
    exact post_list hX R (VRs.replicate hv1 _) (by rw [List.length_replicate]; unfold LIM; omega)
theorem if_some' {α : Type} {p : Prop} [Decidable p] {x r : α} (h : (if p then some x else .none) = some r) : p ∧ x = r := by
  by_cases q : p
  · rw [if_pos q] at h; exact ⟨q, Option.some.inj h⟩
  · rw [if_neg q] at h; exact no h
theorem if_none' {α : Type} {p : Prop} [Decidable p] {x r : α} (h : (if p then .none else some x) = some r) : ¬ p ∧ x = r := by
  by_cases q : p
  · rw [if_pos q] at h; exact no h
  · rw [if_neg q] at h; exact ⟨q, Option.some.inj h⟩
theorem snd_bin {op : BOp} {p q r : PV} {a b : Value} (hX : X.h = s.heap) (R : Rel c X σ) (ha : VR c X p a) (hb : VR c X q b) (h : binV op p q = some r) :
    wpAny (model c.prog c.w) A (binaryOp op.op a b) (fun v s' => Post c none' X σ s σ (fun X' => VR c X' r v) s') NoE s := by
  have int : ∀ i t, Post c none' X σ s σ (fun X' => VR c X' (.int i) (.int i t)) { s with toks := s.toks + 1 } := fun i t => Post.same hX R ⟨_, rfl⟩ _
  cases op with
  | add =>
    cases p with
    | int x =>
      obtain ⟨y, rfl, h⟩ := onInt_some h
      cases h; obtain ⟨t, rfl⟩ := ha; obtain ⟨u, rfl⟩ := hb; exact add_int (int _ _)
    | lst x =>
      obtain ⟨y, rfl, h⟩ := onLst_some h
      obtain ⟨hl, rfl⟩ := if_some' h
      exact bin_lst hX R ha hb hl
    | tup x =>
      obtain ⟨y, rfl, h⟩ := onTup_some h
      obtain ⟨hl, rfl⟩ := if_some' h
      exact bin_tup hX R ha hb hl
    | _ => exact no h
  | mul =>
    cases p with
    | int x =>
      obtain ⟨y, rfl, h⟩ := onInt_some h
      obtain ⟨hm, rfl⟩ := if_some' h
      obtain ⟨t, rfl⟩ := ha; obtain ⟨u, rfl⟩ := hb; exact mul_int (int _ _) (mul_ok hm)
    | lst x =>
      obtain ⟨x, rfl, h⟩ := on1_some h
      obtain ⟨y, rfl, h⟩ := onInt_some h
      obtain ⟨hy, rfl⟩ := if_some' h
      exact bin_rep hX R ha hb hy
    | _ => exact no h
  | sub =>
    obtain ⟨x, rfl, h⟩ := onInt_some h
    obtain ⟨y, rfl, h⟩ := onInt_some h
    cases h; obtain ⟨t, rfl⟩ := ha; obtain ⟨u, rfl⟩ := hb; exact sub_int (int _ _)
  | fdiv =>
    obtain ⟨x, rfl, h⟩ := onInt_some h
    obtain ⟨y, rfl, h⟩ := onInt_some h
    obtain ⟨hz, rfl⟩ := if_none' h
    obtain ⟨t, rfl⟩ := ha; obtain ⟨u, rfl⟩ := hb
    exact floordiv_int (fun e => hz (.inl e)) (int _ _) (.inl (PyProof.noPylong_of_log2 (fits_log (Decidable.byContradiction fun q => hz (.inr q)))))
  | mod =>
    obtain ⟨x, rfl, h⟩ := onInt_some h
    obtain ⟨y, rfl, h⟩ := onInt_some h
    obtain ⟨hz, rfl⟩ := if_none' h
    obtain ⟨t, rfl⟩ := ha; obtain ⟨u, rfl⟩ := hb; exact mod_int hz (int _ _)
  | band =>
    obtain ⟨x, rfl, h⟩ := onInt_some h
    obtain ⟨y, rfl, h⟩ := onInt_some h
    obtain ⟨hp, rfl⟩ := if_some' h
    obtain ⟨t, rfl⟩ := ha; obtain ⟨u, rfl⟩ := hb
    refine and_int ?_
    unfold Builtin.bitAnd
    rw [decide_eq_true hp.1, decide_eq_true hp.2]
    exact int _ _
end Mine
namespace Mine
open PySem PyProof.V PyProof.Rows
set_option autoImplicit false
set_option linter.unusedVariables false
variable {c : Cx} {X : Vw} {σ σ' : St} {A : Around} {s : Shared}

noncomputable def COp.op : COp → CmpOp
  | .eq => .Eq | .ne => .NotEq | .lt => .Lt | .le => .LtE | .gt => .Gt | .ge => .GtE | .is => .Is | .isnot => .IsNot | .isin => .In | .notin => .NotIn

theorem eqG_some {p q : PV} {r : Bool} (h : eqG p q = some r) : (∃ x y, p = .dct x ∧ q = .dct y ∧ (x.all fun p => flatN 6 p.2) = true ∧ (y.all fun p => flatN 6 p.2) = true ∧ kvsEq x y = some r) ∨ (flatN 6 p = true ∧ flatN 6 q = true ∧ pvEq p q = some r) := by
  have other : onTrue (flatN 6 p && flatN 6 q) (pvEq p q) = some r → flatN 6 p = true ∧ flatN 6 q = true ∧ pvEq p q = some r := fun h => by
    obtain ⟨hf, h⟩ := onTrue_some h
    obtain ⟨f1, f2⟩ := Bool.and_eq_true_iff.mp hf
    exact ⟨f1, f2, h⟩
  cases p with
  | dct x =>
    obtain ⟨y, rfl, h⟩ := onDct_some h
    obtain ⟨hf, h⟩ := onTrue_some h
    obtain ⟨f1, f2⟩ := Bool.and_eq_true_iff.mp hf
    exact .inl ⟨x, y, rfl, rfl, f1, f2, h⟩
  | _ => exact .inr (other h)
theorem snd_cmp {op : COp} {p q : PV} {r : Bool} {a b : Value} {E : Value → Shared → Prop} {Q : Value → Shared → Prop} (hX : X.h = s.heap) (ha : VR c X p a) (hb : VR c X q b) (h : cmpV op p q = some r) (hu : A.units + 65 < cLine) (k : Q (.bool r) s) :
    wpAny (model c.prog c.w) A (compareOp op.op a b) Q E s := by
  have hu' : A.units + 64 < cLine := Nat.lt_of_succ_lt hu
  cases op with
  | eq =>
    rcases eqG_some h with ⟨x, y, rfl, rfl, f1, f2, h⟩ | ⟨f1, f2, h⟩
    · exact snd_dct_eq hX ha hb f1 f2 h hu k
    · exact snd_eq hX ha hb f1 f2 h hu' k
  | ne =>
    obtain ⟨r', h1, rfl⟩ := map_some' h
    rcases eqG_some h1 with ⟨x, y, rfl, rfl, f1, f2, h⟩ | ⟨f1, f2, h⟩
    · exact snd_dct_ne hX ha hb f1 f2 h hu k
    · exact snd_ne hX ha hb f1 f2 h hu' k
  | lt =>
    obtain ⟨x, rfl, h⟩ := onInt_some h
    obtain ⟨y, rfl, h⟩ := onInt_some h
    cases h; obtain ⟨t, rfl⟩ := ha; obtain ⟨u, rfl⟩ := hb; exact lt_int k
  | le =>
    obtain ⟨x, rfl, h⟩ := onInt_some h
    obtain ⟨y, rfl, h⟩ := onInt_some h
    cases h; obtain ⟨t, rfl⟩ := ha; obtain ⟨u, rfl⟩ := hb; exact le_int k
  | gt =>
    obtain ⟨x, rfl, h⟩ := onInt_some h
    obtain ⟨y, rfl, h⟩ := onInt_some h
    cases h; obtain ⟨t, rfl⟩ := ha; obtain ⟨u, rfl⟩ := hb; exact gt_int k
  | ge =>
    obtain ⟨x, rfl, h⟩ := onInt_some h
    obtain ⟨y, rfl, h⟩ := onInt_some h
    cases h; obtain ⟨t, rfl⟩ := ha; obtain ⟨u, rfl⟩ := hb; exact ge_int k
  | is =>
    obtain ⟨rfl, h⟩ := onNone_some h
    cases hb
    cases p with
    | none => cases h; cases ha; exact is_none_none k
    | lst x => cases h; obtain ⟨l, vs, rfl, _⟩ := ha; exact is_ref_none k
    | dct x => cases h; obtain ⟨l, vs, rfl, _⟩ := ha; exact is_ref_none k
    | _ => exact no h
  | isnot =>
    obtain ⟨rfl, h⟩ := onNone_some h
    cases hb
    cases p with
    | none => cases h; cases ha; exact isnot_none_none k
    | lst x => cases h; obtain ⟨l, vs, rfl, _⟩ := ha; exact isnot_ref_none k
    | dct x => cases h; obtain ⟨l, vs, rfl, _⟩ := ha; exact isnot_ref_none k
    | _ => exact no h
  | isin =>
    obtain ⟨hf, h⟩ := onTrue_some h
    obtain ⟨f1, f2⟩ := Bool.and_eq_true_iff.mp hf
    obtain ⟨vs, hs, h⟩ := Option.bind_eq_some_iff.mp h
    exact snd_in hX ha hb f1 f2 hs h hu' k
  | notin =>
    obtain ⟨r', h1, rfl⟩ := map_some' h
    obtain ⟨hf, h⟩ := onTrue_some h1
    obtain ⟨f1, f2⟩ := Bool.and_eq_true_iff.mp hf
    obtain ⟨vs, hs, h⟩ := Option.bind_eq_some_iff.mp h
    exact snd_notin hX ha hb f1 f2 hs h hu' k

theorem snd_truth {p : PV} {r : Bool} {a : Value} {E : Value → Shared → Prop} {Q : Bool → Shared → Prop} (ha : VR c X p a) (h : truth p = some r) (k : Q r s) : wpAny (model c.prog c.w) A (truthy a) Q E s := by
  cases p with
  | bool b => cases h; cases ha; exact wpAny_truthy_bool k
  | int i => cases h; obtain ⟨t, rfl⟩ := ha; exact truthy_int k
  | _ => exact no h

theorem idx_seq {n : Nat} {k : Int} {j : Nat} (h : idx n k = some j) : seqIndex? k n = some j ∧ -(2 ^ 63 : Int) ≤ k ∧ k < 2 ^ 63 ∧ j < n ∧ (0 ≤ k → j = k.toNat) := by
  unfold idx at h
  by_cases hf : fits k = true
  · rw [if_pos hf] at h
    have hf' := fits_of.mp hf
    by_cases h0 : 0 ≤ k
    · rw [if_pos h0] at h
      obtain ⟨hn, rfl⟩ := if_some' h
      exact ⟨seqIndex_of h0 hn, by omega, by omega, by omega, fun _ => rfl⟩
    · rw [if_neg h0] at h
      obtain ⟨hn, rfl⟩ := if_some' h
      exact ⟨PySem.seqIndex_neg (by omega) (by omega), by omega, by omega, by omega, fun z => absurd z h0⟩
  · rw [if_neg hf] at h; exact no h

theorem idx_back {n : Nat} {k : Int} {j : Nat} (h : idx n k = some j) (h0 : k < 0) : j = (k + n).toNat ∧ -(n : Int) ≤ k := by
  unfold idx at h
  by_cases hf : fits k = true
  · rw [if_pos hf, if_neg (Int.not_le_of_gt h0)] at h
    obtain ⟨hn, rfl⟩ := if_some' h
    exact ⟨rfl, by omega⟩
  · rw [if_neg hf] at h; exact no h
theorem kv_stored : ∀ (k : Int) (v : PV) (ps : List (Int × PV)), (ps.any fun kv => kv.1 = k) = (kvGet k ps).isSome := by
  intro k v ps
  induction ps with
  | nil => rfl
  | cons x r ih =>
    obtain ⟨l, y⟩ := x
    by_cases e : k = l
    · subst e; simp [kvGet]
    · have e' : ¬ l = k := fun z => e z.symm
      simp only [List.any_cons, kvGet, if_neg e, e', decide_false, Bool.false_or, ih]
theorem VRk.get : ∀ {ps : List (Int × PV)} {kvs : List (Int × Value)} {k : Int} {p : PV}, VRk c X ps kvs → kvGet k ps = some p → ∃ v, valueAt kvs k = some v ∧ VR c X p v
  | [], _, _, _, _, e => by simp [kvGet] at e
  | (l, q) :: ps, kvs, k, p, h, e => by
    obtain ⟨v, r, rfl, h1, h2⟩ := h
    unfold kvGet at e
    split at e
    · rename_i hk; cases e; subst hk
      exact ⟨v, by simp [valueAt], h1⟩
    · rename_i hk
      obtain ⟨u, g, t⟩ := VRk.get h2 e
      refine ⟨u, ?_, t⟩
      have hk' : ¬ l = k := fun z => hk z.symm
      unfold valueAt at g ⊢
      rw [List.find?_cons_of_neg (by simpa using hk')]
      exact g
theorem VRk.none : ∀ {ps : List (Int × PV)} {kvs : List (Int × Value)} {k : Int}, VRk c X ps kvs → kvGet k ps = Option.none → valueAt kvs k = Option.none
  | [], _, _, h, _ => by cases h; rfl
  | (l, q) :: ps, kvs, k, h, e => by
    obtain ⟨v, r, rfl, h1, h2⟩ := h
    unfold kvGet at e
    split at e
    · cases e
    · rename_i hk
      have g := VRk.none h2 e
      have hk' : ¬ l = k := fun z => hk z.symm
      unfold valueAt at g ⊢
      rw [List.find?_cons_of_neg (by simpa using hk')]
      exact g
theorem int_is (k : Int) (t : Tok) : (intKind c.prog c.w).is k (.int k t) = true := by show Value.isInt k (.int k t) = true; simp [Value.isInt]

noncomputable def isSlice (e : PySem.Expr) : Bool := e.ctorIdx == 26
theorem subscripted_plain {slice : PySem.Expr} (h : isSlice slice = false) (o i : Value) : subscripted slice false o i = operate [o, i] (getItem o i) := by
  cases slice <;> first | rfl | cases h

section
variable {value slice : PySem.Expr} {m : Now c} {l : Addr} {k : Int} {t : Tok} {Q : PV → St → Prop}
theorem item_of {ps : List PV} {vs : List Value} {R : Prop} (hv : VRs c m.X ps vs) (h : B.M.Got (B.itemAt ps k) m.σ Q) (q : ∀ j v r, idx vs.length k = some j → vs[j]? = some v → VR c m.X r v → Q r m.σ → R) : R :=
  B.M.Got_e h fun r e h => bind_e e fun j hj hp => (hv.get hp).elim fun v g => q j v r (by rw [hv.length]; exact hj) g.1 g.2 h
theorem item_list {ps : List PV} {vs : List Value} (hsl : isSlice slice = false) (hl : m.s.heap.IsList l vs.toArray) (hv : VRs c m.X ps vs) (h : B.M.Got (B.itemAt ps k) m.σ Q) :
    Wp A (subscriptTail value slice (.ref l) (.int k t)) m Q := by
  refine item_of hv h fun j v r hj hv g q => ?_
  obtain ⟨h1, h2, h3, h4, h5⟩ := idx_seq hj
  refine tail_any hl.typeIs slot_list_getitem.lookup ?_ (subscripted_plain hsl _ _)
  by_cases h0 : 0 ≤ k
  · refine wpAny_getItem_list hl h0 h3 ?_ (Ends.ret g q)
    rw [← h5 h0, List.getElem?_toArray]
    exact hv
  · exact PySem.W.kde_getNeg hl (Int.lt_of_not_ge h0) h2 h1 hv (Ends.ret g q)
theorem item_tup {ps : List PV} {vs : List Value} (hsl : isSlice slice = false) (hl : m.s.heap.IsTuple l vs.toArray) (hv : VRs c m.X ps vs) (h : B.M.Got (B.itemAt ps k) m.σ Q) :
    Wp A (subscriptTail value slice (.ref l) (.int k t)) m Q := by
  refine item_of hv h fun j v r hj hv g q => ?_
  obtain ⟨h1, h2, h3, h4, h5⟩ := idx_seq hj
  exact item_tupleT (value := value) (slice := slice) hl h2 h3 h1 hv (Ends.ret g q) (subscripted_plain hsl _ _)
theorem item_dict {ps : List (Int × PV)} {kvs : List (Int × Value)} (hsl : isSlice slice = false) (hl : m.s.heap.DictOf (intKind c.prog c.w) l kvs) (hv : VRk c m.X ps kvs) (h : B.M.Got (kvGet k ps) m.σ Q) :
    Wp A (subscriptTail value slice (.ref l) (.int k t)) m Q :=
  B.M.Got_e h fun r e q => (hv.get e).elim fun v g => tail_any hl.mapOf.typeIs slot_dict_getitem.lookup (wpAny_getItem_of (int_is k t) hl.mapOf g.1 (Ends.tok g.2 q)) (subscripted_plain hsl _ _)
theorem snd_sub {p x : PV} {a b : Value} (hsl : isSlice slice = false) (ha : VR c m.X p a) (hb : VR c m.X x b) (h : B.W (B.subV p x) m.σ Q) :
    Wp A (subscriptTail value slice a b) m Q := by
  revert hb
  refine B.M.onInt_e h fun k h hb => ?_
  refine hb.int_e fun t => ?_
  cases p with
  | lst ps => exact ha.lst_e fun l vs f hl _ hv => item_list hsl (m.hX ▸ hl).isList hv h
  | tup ps => exact ha.tup_e fun l vs f hl _ hv => item_tup hsl (m.hX ▸ hl) hv h
  | dct ps => exact ha.dct_e fun l vs f _ hl _ hv => item_dict hsl (m.hX ▸ hl) hv h
  | ref i =>
    refine B.M.There_e h fun o lv h => ?_
    refine ha.ref_e ?_
    have OR := (m.R.live i o lv).2
    cases o with
    | list ps => exact OR.list_e fun e _ vs n hl hv => e ▸ item_list hsl (m.hX ▸ PySem.IsL.isList (n := n) hl) hv h
    | dict ps => exact OR.dict_e fun e _ _ vs hl hv => e ▸ item_dict hsl (m.hX ▸ hl) hv h
    | inst c fs => exact h.elim
  | _ => exact h.elim
end

noncomputable def partOf : PV → Option Int
  | .int k => some k
  | _ => none
noncomputable def partOk : PV → Bool
  | .none => true
  | .int k => fits k
  | _ => false
theorem part_is {p : PV} {v : Value} (hp : partOk p = true) (h : VR c X p v) : IsPart v (partOf p) := by
  cases p with
  | none => cases h; exact .none
  | int k => obtain ⟨t, rfl⟩ := h; exact .int k t
  | _ => cases hp
theorem clamp_lo (n : Nat) (k : Int) : clampB n k = PySem.W.kms_lo (some k) n := rfl
theorem bound_lo {n a : Nat} {p : PV} (h : boundL n p = some a) : partOk p = true ∧ a = PySem.W.kms_lo (partOf p) n := by
  cases p with
  | none => cases h; exact ⟨rfl, rfl⟩
  | int k =>
    obtain ⟨hk, rfl⟩ := if_some' h
    exact ⟨hk, clamp_lo _ _⟩
  | _ => cases h
theorem bound_hi {n a : Nat} {p : PV} (h : boundH n p = some a) : partOk p = true ∧ a = PySem.W.kms_hi (partOf p) n := by
  cases p with
  | none => cases h; exact ⟨rfl, rfl⟩
  | int k =>
    obtain ⟨hk, rfl⟩ := if_some' h
    exact ⟨hk, clamp_lo _ _⟩
  | _ => cases h
theorem slice_eq {ps rs : List PV} {lo hi : PV} (h : sliceL ps lo hi = some rs) : partOk lo = true ∧ partOk hi = true ∧
    rs = (ps.drop (PySem.W.kms_lo (partOf lo) ps.length)).take (PySem.W.kms_hi (partOf hi) ps.length - PySem.W.kms_lo (partOf lo) ps.length) := by
  obtain ⟨a, ea, h⟩ := Option.bind_eq_some_iff.mp h
  obtain ⟨b, eb, h⟩ := Option.bind_eq_some_iff.mp h
  cases h
  obtain ⟨p1, rfl⟩ := bound_lo ea
  obtain ⟨p2, rfl⟩ := bound_hi eb
  exact ⟨p1, p2, List.drop_take⟩
theorem getItem_slice {l sl : Addr} {ps rs : List PV} {vs : List Value} {lo hi : PV} {vl vu : Value} (hX : X.h = s.heap) (R : Rel c X σ) (hl : s.heap.IsList l vs.toArray) (hsz : ps.length ≤ 2 * LIM) (hv : VRs c X ps vs) (hsl : s.heap.IsSliceOf sl vl vu .none)
    (hlo : VR c X lo vl) (hhi : VR c X hi vu) (h : sliceL ps lo hi = some rs) :
    wpAny (model c.prog c.w) A (getItem (.ref l) (.ref sl)) (fun v s' => Post c none' X σ s σ (fun X' => VR c X' (.lst rs) v) s') NoE s := by
  obtain ⟨p1, p2, rfl⟩ := slice_eq h
  have hlen := hv.length
  refine wpAny_getItem_list_slice hl hsl (part_is p1 hlo) (part_is p2 hhi) .none (by simp) ?_ (by have := lim_le; simp; with_reducible exact O.a30 (by assumption) (by assumption) (by assumption))
  rw [PySem.W.kms_pick_eq]
  unfold PySem.W.kms_pick
  have e : (#[].append vs.toArray).toList = vs := by simp
  have e' : vs.toArray.toList = vs := by simp
  rw [e', hlen]
  refine post_list (t := s.toks) hX R ((hv.drop _).take _) ?_
  rw [List.length_take, List.length_drop]
  with_reducible exact O.a16 (by assumption)
end Mine
namespace Mine
open PySem PyProof.V PyProof.Rows
set_option autoImplicit false
set_option linter.unusedVariables false
variable {c : Cx} {X : Vw} {σ σ' : St} {A : Around} {s : Shared}

noncomputable def Cl.str : Cl → PySem.Str
  | .info => "Info" | .buffer => "Buffer" | .lookup => "Lookup" | .scene => "Scene" | .ligature => "Ligature" | .classdef => "ClassDef" | .gdef => "Gdef"
noncomputable def Mt.str : Mt → PySem.Str
  | .append => "append" | .get => "get" | .setdefault => "setdefault" | .glyph_class => "glyph_class" | .class_of => "class_of" | .next_lig => "next_lig"

structure ClsFacts (h : Heap) (C : Addr) (fA : Fn → Addr) (k : Cl) : Prop where
  intro ::
  ex : ∃ nm q N bs sn sub col dd k0 k1 k2 k3 k5 mN, h.get? C = some (excClassObj nm q C N bs [.type "object"] true sn sub false col dd k0 k1 k2 k3 k5 "object.__new__") ∧ h.Ns N mN ∧
    mN "__getattribute__" = none ∧ mN "__getattr__" = none ∧ mN "__setattr__" = none ∧ (∀ a : At, mN a.str = none) ∧ mN "__init__" = some (.ref (fA (.init k))) ∧ (∀ m f, methodOf k m = some f → mN m.str = some (.ref (fA f)))

theorem ClsFacts.keeps {h h' : Heap} {C : Addr} {fA : Fn → Addr} {k : Cl} (x : ClsFacts h C fA k) (hk : ∀ b o, h.get? b = some o → h'.get? b = some o) : ClsFacts h' C fA k := by
  obtain ⟨nm, q, N, bs, sn, sub, col, dd, k0, k1, k2, k3, k5, mN, hC, hN, r⟩ := x.ex
  exact ⟨nm, q, N, bs, sn, sub, col, dd, k0, k1, k2, k3, k5, mN, hk _ _ hC, hN.keeps hk, r⟩

theorem At.not_object (n : At) : typeLookup (.type "object") n.str = pure none := by
  cases n <;> (rw [typeLookup_type, builtinLookup_eq_fast]; kernel_rfl)

theorem InstAt.inst {h : Heap} {a d C : Addr} {m : PySem.Str → Option Value} (x : InstAt h a d C m) : h.Inst a C m := by
  obtain ⟨o, ho, e1, e2, e3, e4, e5, _⟩ := x
  exact ⟨o, ho, e1, e2, .inr ⟨d, e3, e4, e5⟩⟩

theorem VRf.get : ∀ {fs : List (At × PV)} {m : PySem.Str → Option Value} {n : At} {p : PV}, VRf c X fs m → fGet n fs = some p → ∃ v, m n.str = some v ∧ VR c X p v
  | [], _, _, _, _, e => by simp [fGet] at e
  | (l, q) :: fs, m, n, p, h, e => by
    obtain ⟨h1, h2⟩ := h
    unfold fGet at e
    split at e
    · rename_i hk; subst hk; injection e with e; subst e; exact h1
    · exact VRf.get h2 e
theorem VRf.store {fs : List (At × PV)} {m : PySem.Str → Option Value} {n : At} {v : Value} (h : VRf c X fs m) (hn : ∀ q ∈ fs, q.1 ≠ n) : VRf c X fs (fun y => if y = n.str then some v else m y) := by
  induction fs with
  | nil => exact h
  | cons q r ih =>
    obtain ⟨l, p⟩ := q
    obtain ⟨⟨u, h1, h2⟩, h3⟩ := h
    refine ⟨⟨u, ?_, h2⟩, ih h3 fun q hq => hn q (.tail _ hq)⟩
    have : l ≠ n := hn (l, p) (.head _)
    have : ¬ l.str = n.str := fun e => this (At.str_inj e)
    simp [this, h1]
theorem VRf.put : ∀ {fs : List (At × PV)} {m : PySem.Str → Option Value} {n : At} {p : PV} {v : Value}, (fs.map (·.1)).Nodup → VRf c X fs m → VR c X p v → VRf c X (fPut n p fs) (fun y => if y = n.str then some v else m y)
  | [], m, n, p, v, _, h, g => ⟨⟨v, by simp, g⟩, trivial⟩
  | (l, q) :: fs, m, n, p, v, hd, h, g => by
    obtain ⟨⟨u, h1, h2⟩, h3⟩ := h
    rw [List.map_cons, List.nodup_cons] at hd
    unfold fPut
    split
    · rename_i hk; subst hk
      refine ⟨⟨v, by simp, g⟩, VRf.store h3 fun q hq e => hd.1 (List.mem_map.mpr ⟨q, hq, e⟩)⟩
    · rename_i hk
      have : ¬ l.str = n.str := fun e => hk (At.str_inj e).symm
      exact ⟨⟨u, by simp [this, h1], h2⟩, VRf.put hd.2 h3 g⟩

theorem VR.handed {p : PV} {v : Value} (h : VR c X p v) : handedOut v = pure v := by
  cases p with
  | none => cases h; rfl
  | bool b => cases h; rfl
  | int i => obtain ⟨t, rfl⟩ := h; rfl
  | str k => obtain ⟨t, rfl⟩ := h; rfl
  | ref i => obtain ⟨_, rfl⟩ := h; rfl
  | tup ps => obtain ⟨a, vs, rfl, _⟩ := h; rfl
  | lst ps => obtain ⟨a, vs, rfl, _⟩ := h; rfl
  | dct ps => obtain ⟨a, vs, rfl, _⟩ := h; rfl
  | inst k fs => obtain ⟨a, d, m, rfl, _⟩ := h; rfl
  | range lo hi => obtain ⟨a, t, u, k, rfl, _⟩ := h; rfl

theorem attr_at {n : At} {a d C : Addr} {k : Cl} {m : PySem.Str → Option Value} {p : PV} {v : Value} (K : ClsFacts s.heap C c.fA k) (I : InstAt s.heap a d C m) (hm : m n.str = some v) (hv : VR c X p v) {E : Value → Shared → Prop} {Q : Value → Shared → Prop}
    (q : Q v { s with toks := s.toks + 1 }) : wpAny (model c.prog c.w) A (getAttr (.ref a) n.str true) Q E s := by
  obtain ⟨nm, qn, N, bs, sn, sub, col, dd, k0, k1, k2, k3, k5, mN, hC, hN, e1, e2, e3, e4, _⟩ := K.ex
  obtain ⟨h, g, dr, t, os⟩ := s
  exact load_attr hC hN e1 (e4 n) n.not_object I.inst hm hv.handed q

variable {m : Now c}
theorem Now.cls (m : Now c) (K : ∀ k, ClsFacts c.h₀ (c.cA k) c.fA k) (k : Cl) : ClsFacts m.s.heap (c.cA k) c.fA k := (K k).keeps fun _ _ e => m.old e
theorem attr_to {n : At} {k : Cl} {a d : Addr} {fs : List (At × PV)} {mA : PySem.Str → Option Value} {Q : PV → St → Prop} (K : ∀ k, ClsFacts c.h₀ (c.cA k) c.fA k) (I : InstAt m.X.h a d (c.cA k) mA) (hf : VRf c m.X fs mA) (h : B.M.Got (fGet n fs) m.σ Q) :
    Wp A (getAttr (.ref a) n.str true) m Q :=
  B.M.Got_e h fun r e q => (hf.get e).elim fun v g => attr_at (m.cls K k) (m.hX ▸ I) g.1 g.2 (Ends.tok g.2 q)
theorem snd_attr {n : At} {p : PV} {a : Value} {Q : PV → St → Prop} (K : ∀ k, ClsFacts c.h₀ (c.cA k) c.fA k) (ha : VR c m.X p a) (h : B.W (B.attrV n p) m.σ Q) :
    Wp A (getAttr a n.str true) m Q := by
  cases p with
  | inst k fs => exact ha.inst_e fun a d mA _ _ I hf => attr_to K I hf h
  | ref i =>
    refine B.M.There_e h fun o => ?_
    refine ha.ref_e fun lv h => ?_
    revert lv
    refine B.M.onInst_e h fun k fs h lv => ?_
    exact (m.R.live i _ lv).2.inst_e fun f _ mA I hf => attr_to K I hf h
  | _ => exact h.elim

theorem within_at {m : PySem.Str → Option Value} {n : At} {v : Value} (h : Within m atNames) : Within (fun y => if y = n.str then some v else m y) atNames := fun y hy => by
  by_cases e : y = n.str
  · subst e; exact n.mem_names
  · simp only [if_neg e] at hy; exact h y hy
theorem fPut_keys : ∀ (fs : List (At × PV)) (n : At) (p : PV), (fs.map (·.1)).Nodup → ((fPut n p fs).map (·.1)).Nodup ∧ ∀ l, l ∈ (fPut n p fs).map (·.1) → l = n ∨ l ∈ fs.map (·.1)
  | [], n, p, _ => by simp [fPut]
  | (l, q) :: fs, n, p, h => by
    rw [List.map_cons, List.nodup_cons] at h
    unfold fPut
    split
    · rename_i hk; subst hk
      refine ⟨by rw [List.map_cons, List.nodup_cons]; exact h, fun l hl => .inr hl⟩
    · rename_i hk
      obtain ⟨h1, h2⟩ := fPut_keys fs n p h.2
      refine ⟨by rw [List.map_cons, List.nodup_cons]; exact ⟨fun hm => (h2 l hm).elim (fun e => hk e.symm) h.1, h1⟩, fun x hx => ?_⟩
      rw [List.map_cons] at hx ⊢
      rcases List.mem_cons.mp hx with rfl | hx
      · exact .inr (.head _)
      · exact (h2 x hx).imp id (.tail _)

theorem Ends.upd {α β : Type} {cur : Addr → Prop} {V : Now c → β → α → Prop} {Q : β → St → Prop} {r : β} {v : α} {i : Nat} {o₀ o : PObj} {h' : Heap} {t : Tok} (lv : Live m.σ i o₀) (sb : ∀ b ob, b ≠ (m.X.ι i).2 → m.s.heap.get? b = some ob → h'.get? b = some ob)
    (hi : ∃ ob, h'.get? (m.X.ι i).2 = some ob) (ho : Le m.X (m.X.at h') → ObjR c (m.X.at h') (m.X.ι i) o) (hV : ∀ n : Now c, Le m.X n.X → V n r v) (q : Q r (m.σ.set i (some o))) : Ends cur V m Q v (sh m.s h' t) := by
  have sb' : ∀ b ob, b ≠ (m.X.ι i).2 → m.X.h.get? b = some ob → h'.get? b = some ob := fun b ob hb e => sb b ob hb (m.hX ▸ e)
  have L : Le m.X (m.X.at h') := ⟨Nat.le_refl _, fun _ _ => rfl, fun _ z => z, fun b o fb e => sb' b o (fun z => (m.R.live i _ lv).1 (z ▸ fb)) e⟩
  obtain ⟨R', N'⟩ := m.R.update (o := o) lv sb' hi (ho L)
  exact ⟨⟨_, _, _, rfl, R'⟩, r, rfl, ⟨⟨h', t, rfl⟩, N'.wider fun _ z => z.elim⟩, hV _ L, q⟩
theorem obj_same {o₁ o₀ : Obj} {d : Addr} (d1 : o₁.cls = o₀.cls) (d2 : o₁.data = o₀.data) (d3 : o₁.slots = o₀.slots) (d4 : ∀ dx, o₀.dict = some dx → o₁.dict = some dx) (c3 : o₀.dict = some d) : o₁ = o₀ := by
  have dd := d4 d c3
  cases o₁; cases o₀
  cases d1; cases d2; cases d3; cases c3; cases dd
  rfl
theorem InstAt.dict_at {h : Heap} {a d C : Addr} {mA : PySem.Str → Option Value} (I : InstAt h a d C mA) : ∃ o, h.get? d = some o := by
  obtain ⟨_, _, _, _, _, _, ⟨od, _, _, hd, _⟩, _⟩ := I
  exact ⟨od, hd⟩
theorem InstAt.ne {h : Heap} {a d C : Addr} {mA : PySem.Str → Option Value} {o' : Obj} {kc : _} (I : InstAt h a d C mA) (hC : h.get? C = some o') (hk : o'.data = .cls kc) : a ≠ C := by
  rintro rfl
  obtain ⟨o, ho, _, c2, _⟩ := I
  rw [hC] at ho
  cases ho
  exact c2 _ hk
theorem store_at {n : At} {k : Cl} {a d C : Addr} {mA : PySem.Str → Option Value} {v : Value} {Q : Unit → Shared → Prop} {E : Value → Shared → Prop} (K : ClsFacts s.heap C c.fA k) (I : InstAt s.heap a d C mA)
    (hq : ∀ h' tk', InstAt h' a d C (fun y => if y = n.str then some v else mA y) → (∀ b ob, b ≠ d → s.heap.get? b = some ob → h'.get? b = some ob) → Q () { s with heap := h', toks := tk' }) : wpAny (model c.prog c.w) A (setAttr (.ref a) n.str v) Q E s := by
  obtain ⟨nm, qn, N, bs, sn, sub, col, dd, k0, k1, k2, k3, k5, mN, hC, hN, e1, e2, e3, e4, _⟩ := K.ex
  obtain ⟨o₀, ho, c1, c2, c3, c4, c5, c6⟩ := id I
  obtain ⟨h, g, dr, t, os⟩ := s
  refine store_attr PySem.F.store_object hC hN e3 (e4 n) n.not_object (I.ne hC rfl) I.inst (fun h' tk' I2 hk ho2 => ?_) c6 (by decide)
  obtain ⟨o₁, ho1, d1, d2, d3, d4⟩ := ho2 o₀ ho
  cases obj_same d1 d2 d3 d4 c3
  obtain ⟨o₂, ho2', _, _, r⟩ := I2
  cases ho1.symm.trans ho2'
  refine hq h' tk' ⟨o₀, ho1, c1, c2, c3, c4, ?_, within_at c6⟩ fun b ob hb e => ?_
  · rcases r with ⟨rn, _⟩ | ⟨d', rd, _, rn⟩
    · cases c3.symm.trans rn
    · cases c3.symm.trans rd; exact rn
  · by_cases hx : b = a
    · subst hx
      cases e.symm.trans ho
      exact ho1
    · exact hk b ob hx (fun o₁ dx hq hd => by cases hq.symm.trans ho; cases c3.symm.trans hd; exact hb) e
theorem snd_setAttr {n : At} {p q : PV} {a v : Value} {Q : Unit → St → Prop} (K : ∀ k, ClsFacts c.h₀ (c.cA k) c.fA k) (ha : VR c m.X p a) (hv : VR c m.X q v) (h : B.W (B.setAttrV p n q) m.σ Q) :
    wpAny (model c.prog c.w) A (setAttr a n.str v) (Ends none' UN m Q) NoE m.s := by
  revert ha
  refine B.M.onRef_e h fun j h ha => ?_
  refine ha.ref_e ?_
  refine B.M.There_e h fun o lv h => ?_
  revert lv
  refine B.M.onInst_e h fun k fs h lv => ?_
  refine (m.R.live j _ lv).2.inst_e fun f nd mA I hf => store_at (m.cls K k) (m.hX ▸ I) fun h' tk' I' sb => ?_
  exact Ends.upd (o := .inst k (fPut n q fs)) lv sb I'.dict_at (fun L => ⟨f, (fPut_keys fs n q nd).1, _, I', VRf.put nd (VRf.le L _ _ hf) (VR.le L _ _ hv)⟩) (fun _ _ => trivial) h
end Mine
namespace Mine
open PySem PyProof.V PyProof.Rows
set_option autoImplicit false
set_option linter.unusedVariables false
variable {c : Cx} {X : Vw} {σ σ' : St} {A : Around} {s : Shared}

structure Room (A : Around) (k : Nat) : Prop where
  handled : A.handled = none
  depth : A.depth + 3 * k + 10 < recursionLimit
  units : A.units + 50 * k + 500 < cLine

theorem Room.in1 {k : Nat} (h : Room A (k + 1)) : Room A.in1 k := ⟨h.handled, by have := h.depth; show A.depth + _ + _ < _; with_reducible exact O.a26a (by assumption), by have := h.units; show A.units + 1 + _ + _ < _; with_reducible exact O.a26d (by assumption)⟩
theorem Room.deeper {k : Nat} {env : PySem.Env} (h : Room A (k + 1)) : Room (A.deeper env) k := ⟨h.handled, by have := h.depth; show A.depth + 1 + _ + _ < _; with_reducible exact O.a26 (by assumption), by have := h.units; show A.units + 3 + _ + _ < _; with_reducible exact O.a26e (by assumption)⟩

theorem post_kept {cur : Addr → Prop} {h' : Heap} {t : Tok} {P : Vw → Prop} (hX : X.h = s.heap) (R : Rel c X σ) (hk : ∀ b o, s.heap.get? b = some o → h'.get? b = some o)
    (p : Le X { X with h := h' } → P { X with h := h' }) : Post c cur X σ s σ P { s with heap := h', toks := t } := by
  have hk' : ∀ b o, X.h.get? b = some o → h'.get? b = some o := fun b o e => hk b o (hX ▸ e)
  have N : Nx (fun _ => False) X σ { X with h := h' } σ := Nx.heap _ (born_ne hk') (fun b o e _ => hk' b o e) (fun _ _ f => f)
  exact ⟨_, rfl, ⟨h', t, rfl⟩, R.heap fun b o e _ => hk' b o e, N.wider (fun _ f => f.elim), p N.le⟩
theorem post_newat {cur : Addr → Prop} {h' : Heap} {t : Tok} {P : Vw → Prop} (hX : X.h = s.heap) (R : Rel c X σ) (b₀ : Addr) (hk : ∀ b o, s.heap.get? b = some o → h'.get? b = some o)
    (hn : s.heap.get? b₀ = none) (hb : ∃ o, h'.get? b₀ = some o)
    (p : Le X { X with h := h', Fz := fun b => X.Fz b ∨ b = b₀ } → P { X with h := h', Fz := fun b => X.Fz b ∨ b = b₀ }) : Post c cur X σ s σ P { s with heap := h', toks := t } :=
  post_new R (fun b => b = b₀) (fun b o e => hk b o (hX ▸ e)) (fun b e => by subst e; rw [hX]; exact ⟨hn, hb⟩) p

noncomputable def Bi.val : Bi → Value
  | .len => .builtin "len" | .abs => .builtin "abs" | .min => .builtin "min" | .max => .builtin "max" | .sum => .builtin "sum" | .any => .builtin "any"
  | .dict => .type "dict" | .list => .type "list" | .tuple => .type "tuple" | .int => .type "int" | .range => .type "range"

theorem fits_iff {k : Int} (h : fits k = true) : -(2 ^ 62) < k ∧ k < 2 ^ 62 := by
  rw [fits_of] at h
  omega

section
variable {r : PV} {ps : List PV} {vs : List Value} {E : Value → Shared → Prop}
theorem size_ok {n : Nat} (h : n ≤ 2 * LIM) : (n : Int) < 2 ^ 63 := by unfold LIM at h; omega
theorem b_len_list {a : Addr} {vs : List Value} (hX : X.h = s.heap) (R : Rel c X σ) (hl : s.heap.IsList a vs.toArray) (hv : VRs c X ps vs) (hn : ps.length ≤ 2 * LIM) :
    wpAny (model c.prog c.w) A (call (.builtin "len") [.ref a]) (fun v s' => Post c none' X σ s σ (fun X' => VR c X' (.int ps.length) v) s') E s := by
  have e : vs.toArray.size = ps.length := by simp [hv.length]
  refine PySem.Calls.call_len_list hl (by rw [e]; exact size_ok hn) ?_
  rw [e]
  exact Post.same hX R ⟨_, rfl⟩ _
theorem b_len_tup {a : Addr} {vs : List Value} (hX : X.h = s.heap) (R : Rel c X σ) (hl : s.heap.IsTuple a vs.toArray) (hv : VRs c X ps vs) (hn : ps.length ≤ 2 * LIM) :
    wpAny (model c.prog c.w) A (call (.builtin "len") [.ref a]) (fun v s' => Post c none' X σ s σ (fun X' => VR c X' (.int ps.length) v) s') E s := by
  have e : vs.toArray.size = ps.length := by simp [hv.length]
  refine len_tuple hl (by rw [e]; exact size_ok hn) ?_
  rw [e]
  exact Post.same hX R ⟨_, rfl⟩ _
theorem b_abs {i : Int} {t : Tok} (hX : X.h = s.heap) (R : Rel c X σ) :
    wpAny (model c.prog c.w) A (call (.builtin "abs") [.int i t]) (fun v s' => Post c none' X σ s σ (fun X' => VR c X' (.int i.natAbs) v) s') E s := by
  refine call_abs_int fun u tk => ?_
  rw [show (if i < 0 then -i else i) = (i.natAbs : Int) by split <;> omega]
  exact Post.same hX R ⟨_, rfl⟩ _
theorem b_min2 {i j : Int} {t u : Tok} (hh : A.handled = none) (hX : X.h = s.heap) (R : Rel c X σ) :
    wpAny (model c.prog c.w) A (call (.builtin "min") [.int i t, .int j u]) (fun v s' => Post c none' X σ s σ (fun X' => VR c X' (.int (if j < i then j else i)) v) s') E s := by
  refine min_two_ints hh fun h' tk hk => ?_
  refine post_kept hX R hk fun _ => ?_
  by_cases e : j < i
  · rw [if_pos e, if_pos e]; exact ⟨_, rfl⟩
  · rw [if_neg e, if_neg e]; exact ⟨_, rfl⟩
theorem b_max2 {i j : Int} {t u : Tok} (hh : A.handled = none) (hX : X.h = s.heap) (R : Rel c X σ) :
    wpAny (model c.prog c.w) A (call (.builtin "max") [.int i t, .int j u]) (fun v s' => Post c none' X σ s σ (fun X' => VR c X' (.int (if i < j then j else i)) v) s') E s := by
  refine max_two_ints hh fun h' tk hk => ?_
  refine post_kept hX R hk fun _ => ?_
  by_cases e : i < j
  · rw [if_pos e, if_pos (show j > i from e)]; exact ⟨_, rfl⟩
  · rw [if_neg e, if_neg (show ¬ j > i from e)]; exact ⟨_, rfl⟩
theorem b_int {i : Int} {t : Tok} (hX : X.h = s.heap) (R : Rel c X σ) :
    wpAny (model c.prog c.w) A (call (.type "int") [.int i t]) (fun v s' => Post c none' X σ s σ (fun X' => VR c X' (.int i) v) s') E s :=
  call_int_int (Post.here hX R ⟨_, rfl⟩)
theorem b_range1 {i : Int} {t : Tok} (hX : X.h = s.heap) (R : Rel c X σ) (hf : fits i = true) :
    wpAny (model c.prog c.w) A (call (.type "range") [.int i t]) (fun v s' => Post c none' X σ s σ (fun X' => VR c X' (.range 0 i) v) s') E s :=
  call_range_1 (post_push hX R rfl fun _ => ⟨_, _, _, _, rfl, .inr rfl, IsRange.new _ _ _ _ _ _ _, by decide, hf⟩)
theorem b_range2 {i j : Int} {t u : Tok} (hX : X.h = s.heap) (R : Rel c X σ) (hf : fits i = true) (hg : fits j = true) :
    wpAny (model c.prog c.w) A (call (.type "range") [.int i t, .int j u]) (fun v s' => Post c none' X σ s σ (fun X' => VR c X' (.range i j) v) s') E s :=
  call_range_2 (post_push hX R rfl fun _ => ⟨_, _, _, _, rfl, .inr rfl, IsRange.new _ _ _ _ _ _ _, hf, hg⟩)
theorem b_list {a : Addr} {vs : List Value} (hX : X.h = s.heap) (R : Rel c X σ) (hl : s.heap.IsList a vs.toArray) (hv : VRs c X ps vs) (hn : ps.length ≤ 2 * LIM) :
    wpAny (model c.prog c.w) A (call (.type "list") [.ref a]) (fun v s' => Post c none' X σ s σ (fun X' => VR c X' (.lst ps) v) s') E s := by
  obtain ⟨o, ho, hc, n, hd⟩ := hl
  refine call_list_seq a (.inl rfl) ho hc hd (fun h' c' hk hn' => ?_) (by have := lim_le; have := hv.length; simp; with_reducible exact O.a30 (by assumption) (by assumption) (by assumption))
  refine post_newat (t := s.toks) hX R s.heap.objs.size hk (Heap.get?_none_of_le (Nat.le_refl _)) ⟨_, hn'⟩ fun L => ?_
  exact ⟨_, vs, rfl, .inr rfl, ⟨_, hn'⟩, hn, VRs.le L _ _ hv⟩
theorem b_tuple {a : Addr} {vs : List Value} (hX : X.h = s.heap) (R : Rel c X σ) (hl : s.heap.IsList a vs.toArray) (hv : VRs c X ps vs) (hn : ps.length ≤ 2 * LIM) :
    wpAny (model c.prog c.w) A (call (.type "tuple") [.ref a]) (fun v s' => Post c none' X σ s σ (fun X' => VR c X' (.tup ps) v) s') E s := by
  refine call_tuple_list hl (fun h' hk => ?_) (by have := lim_le; have := hv.length; simp; with_reducible exact O.a30 (by assumption) (by assumption) (by assumption))
  have hle : s.heap.get? h'.objs.size = none := by
    cases e : s.heap.get? h'.objs.size with
    | none => rfl
    | some o => exact absurd (Heap.lt_size (hk _ _ e)) (Nat.lt_irrefl _)
  refine post_newat (t := s.toks) hX R h'.objs.size (fun b o e => Heap.get?_push_of_some _ (hk b o e)) hle ⟨_, Heap.get?_push_size _ rfl⟩ fun L => ?_
  exact ⟨_, vs, rfl, .inr rfl, tuple_new rfl, hn, VRs.le L _ _ hv⟩
theorem b_dict {a : Addr} {qs : List (Int × PV)} {kvs : List (Int × Value)} (hX : X.h = s.heap) (R : Rel c X σ) (hns : a ≠ sysModules) (hS : ∃ o, c.h₀.get? cStatics = some o) (hl : s.heap.DictOf (intKind c.prog c.w) a kvs) (hv : VRk c X qs kvs) (hn : qs.length ≤ 2 * LIM) :
    wpAny (model c.prog c.w) A (call (.type "dict") [.ref a]) (fun v s' => Post c none' X σ s σ (fun X' => VR c X' (.dct qs) v) s') E s := by
  refine PySem.kt_call_dict (beq_eq_false_iff_ne.mpr hns) hl (by have := lim_le; have := hv.length; with_reducible exact O.a30 (by assumption) (by assumption) (by assumption)) fun h' hd hs => ?_
  have hne : s.heap.objs.size ≠ sysModules := fun e => by
    obtain ⟨o, ho⟩ := hS
    have := Heap.lt_size (R.base _ _ ho).2
    rw [hX, e] at this
    exact absurd this (by decide)
  have hd' := hd
  obtain ⟨o, es, ep, ho, _⟩ := hd'
  refine post_newat (t := s.toks) hX R s.heap.objs.size (fun b o e => ?_) (Heap.get?_none_of_le (Nat.le_refl _)) ⟨o, ho⟩ fun L => ?_
  · have hb : b ≠ s.heap.objs.size := fun z => by rw [z, Heap.get?_none_of_le (Nat.le_refl _)] at e; cases e
    rw [hs.2 b hb]; exact Heap.get?_push_of_some _ e
  · exact ⟨_, kvs, rfl, .inr rfl, hne, hd, hn, VRk.le L _ _ hv⟩
theorem iter_list {a : Addr} {vs : List Value} {Q : Value → Shared → Prop} (hl : s.heap.IsList a vs.toArray)
    (h : ∀ I, I = s.heap.objs.size → a ≠ I → ∀ h', h' = s.heap.push { cls := .type "list_iterator", data := .fields #[.ref a, .int 0 0] } → h'.IsListIter I a 0 → h'.IsList a vs.toArray → Q (.ref I) { s with heap := h' }) :
    wpAny (model c.prog c.w) A (pyIter (.ref a)) Q E s := by
  have hne : a ≠ s.heap.objs.size := by
    obtain ⟨o, ho, _⟩ := hl
    exact Nat.ne_of_lt (Heap.lt_size ho)
  exact wpAny_pyIter_list hl (h _ rfl hne _ rfl ⟨_, Heap.get?_push_size _ rfl, rfl, rfl⟩ (hl.push _))
theorem keep_it {h' h'' : Heap} {o : Obj} (hk : ∀ b o', b ∉ [s.heap.objs.size] → (s.heap.push o).get? b = some o' → h''.get? b = some o') : ∀ b o', s.heap.get? b = some o' → h''.get? b = some o' := fun b o' e => by
  refine hk b o' (fun hm => ?_) (Heap.get?_push_of_some _ e)
  rw [List.mem_singleton.mp hm, Heap.get?_none_of_le (Nat.le_refl _)] at e
  cases e

noncomputable def nat0 (ns : List Int) (i : Nat) : Int := (ns[i]?).getD 0
theorem ints_at {vs : List Value} {ns : List Int} (h : IntsAre vs ns) : ∀ (i : Nat) (v : Value), vs.toArray[i]? = some v → ∃ t, v = .int (nat0 ns i) t := by
  intro i v e
  rw [List.getElem?_toArray] at e
  induction h generalizing i with
  | nil => simp at e
  | cons n t _ ih =>
    cases i with
    | zero => simp at e; exact ⟨t, by simpa [nat0] using e.symm⟩
    | succ i => simpa [nat0] using ih i (by simpa using e)
theorem ints_len {vs : List Value} {ns : List Int} (h : IntsAre vs ns) : vs.length = ns.length := by
  induction h with
  | nil => rfl
  | cons n t _ ih => simp [ih]
theorem best_min (ns : List Int) : ∀ k, k < ns.length → nat0 ns (argBest (fun i j => decide (nat0 ns i < nat0 ns j)) k) = ((ns.take (k + 1)).tail).foldl (fun m x => if x < m then x else m) (nat0 ns 0) := by
  intro k hk
  induction k with
  | zero =>
    cases ns with
    | nil => simp at hk
    | cons a r => simp [argBest]
  | succ k ih =>
    have h1 := ih (by omega)
    cases ns with
    | nil => simp at hk
    | cons a r =>
      have hr : k < r.length := by simpa using hk
      simp only [List.take_succ_cons, List.tail_cons] at h1 ⊢
      rw [List.take_succ_eq_append_getElem hr, List.foldl_append, ← h1]
      simp only [argBest, List.foldl_cons, List.foldl_nil]
      have hg : nat0 (a :: r) (k + 1) = r[k] := by simp [nat0, hr]
      by_cases e : nat0 (a :: r) (k + 1) < nat0 (a :: r) (argBest (fun i j => decide (nat0 (a :: r) i < nat0 (a :: r) j)) k)
      · simp only [e, decide_true, if_true]
        rw [if_pos (by rw [← hg]; exact e)]; exact hg
      · simp only [e, decide_false, Bool.false_eq_true, if_false]
        rw [if_neg (by rw [← hg]; exact e)]
theorem pre_sum (ns : List Int) : ∀ k, k ≤ ns.length → preSum (nat0 ns) k = (ns.take k).foldl (· + ·) 0 := by
  intro k hk
  induction k with
  | zero => simp [preSum]
  | succ k ih =>
    have hr : k < ns.length := hk
    rw [List.take_succ_eq_append_getElem hr, List.foldl_append, ← ih (by with_reducible exact O.a34a (by assumption))]
    simp [preSum, nat0, hr]

theorem b_minl {a : Addr} {vs : List Value} {ns : List Int} {m : Int} (hh : A.handled = none) (hX : X.h = s.heap) (R : Rel c X σ) (hl : s.heap.IsList a vs.toArray) (hv : VRs c X ps vs) (hi : intsOf ps = some ns) (hm : minL ns = some m) :
    wpAny (model c.prog c.w) A (call (.builtin "min") [.ref a]) (fun v s' => Post c none' X σ s σ (fun X' => VR c X' (.int m) v) s') E s := by
  have I := hv.ints hi
  have hn : vs.toArray.size = ns.length := by simp [ints_len I]
  refine call_min_walk (iter_list hl fun It eI hne h' eh hit hl' => ?_)
  have hpos : 0 < ns.length := by
    cases ns with
    | nil => cases hm
    | cons => simp
  refine ⟨It, _, _, _, _, _, _, rfl, Walks.list (A := A.in1) hh It a hne vs.toArray, ⟨hit, hl'⟩, ?_, by rw [hn]; exact hpos, CmpOf.ints_lt (nat0 ns) (ints_at I), fun v h'' tk hP hk => ?_⟩
  · intro b hb
    show b < h'.objs.size
    rw [eh, Heap.size_push]
    rcases List.mem_cons.mp hb with e | hb
    · rw [e, eI]; exact Nat.lt_succ_self _
    · rw [List.mem_singleton.mp hb]
      obtain ⟨o, ho, _⟩ := hl
      exact Nat.lt_succ_of_lt (Heap.lt_size ho)
  · subst eI eh
    refine post_kept hX R (keep_it (s := s) (h' := s.heap) hk) fun _ => ?_
    obtain ⟨t, e⟩ := ints_at I _ v hP
    refine ⟨t, ?_⟩
    rw [e, hn, best_min ns _ (by omega)]
    cases ns with
    | nil => cases hm
    | cons x r => simp [minL] at hm; subst hm; simp [nat0]
theorem b_suml {a : Addr} {vs : List Value} {ns : List Int} (hh : A.handled = none) (hX : X.h = s.heap) (R : Rel c X σ) (hl : s.heap.IsList a vs.toArray) (hv : VRs c X ps vs) (hi : intsOf ps = some ns) :
    wpAny (model c.prog c.w) A (call (.builtin "sum") [.ref a]) (fun v s' => Post c none' X σ s σ (fun X' => VR c X' (.int (ns.foldl (· + ·) 0)) v) s') E s := by
  have I := hv.ints hi
  have hn : vs.toArray.size = ns.length := by simp [ints_len I]
  refine call_sum_walkG (iter_list hl fun It eI hne h' eh hit hl' => ?_)
  refine ⟨It, _, _, _, _, _, _, rfl, Walks.list (A := A.in1) hh It a hne vs.toArray, ⟨hit, hl'⟩, ?_, ints_at I, fun h'' tk t' hk => ?_⟩
  · intro b hb
    show b < h'.objs.size
    rw [eh, Heap.size_push]
    rcases List.mem_cons.mp hb with e | hb
    · rw [e, eI]; exact Nat.lt_succ_self _
    · rw [List.mem_singleton.mp hb]
      obtain ⟨o, ho, _⟩ := hl
      exact Nat.lt_succ_of_lt (Heap.lt_size ho)
  · subst eI eh
    refine post_kept hX R (keep_it (s := s) (h' := s.heap) hk) fun _ => ⟨t', ?_⟩
    rw [hn, pre_sum ns _ (Nat.le_refl _), List.take_length]
theorem bools_at : ∀ {ps : List PV} {vs : List Value} {ns : List Bool}, VRs c X ps vs → boolsOf ps = some ns → ∀ (i : Nat) (v : Value), vs[i]? = some v → v = .bool ((ns[i]?).getD false) := by
  intro ps
  induction ps with
  | nil => intro vs ns h _ i v e; cases h; exact nomatch e
  | cons p ps ih =>
    intro vs ns h e i v g
    obtain ⟨b, rfl, e⟩ := onBool_some e
    obtain ⟨l, hl, rfl⟩ := map_some' e
    obtain ⟨v₀, r, rfl, rfl, h2⟩ := h
    cases i with
    | zero => cases g; rfl
    | succ i => exact ih h2 hl i v g
theorem bools_len : ∀ {ps : List PV} {ns : List Bool}, boolsOf ps = some ns → ps.length = ns.length := by
  intro ps
  induction ps with
  | nil => intro ns e; cases e; rfl
  | cons p ps ih =>
    intro ns e
    obtain ⟨b, rfl, e⟩ := onBool_some e
    obtain ⟨l, hl, rfl⟩ := map_some' e
    rw [List.length_cons, List.length_cons, ih hl]
theorem any_range (ns : List Bool) : (List.range ns.length).any (fun i => (ns[i]?).getD false) = ns.any id := by
  rw [Bool.eq_iff_iff, List.any_eq_true, List.any_eq_true]
  constructor
  · rintro ⟨i, hi, e⟩
    have hi := List.mem_range.mp hi
    rw [List.getElem?_eq_getElem hi] at e
    exact ⟨ns[i], List.getElem_mem hi, e⟩
  · rintro ⟨b, hb, e⟩
    obtain ⟨i, hi, rfl⟩ := List.getElem_of_mem hb
    exact ⟨i, List.mem_range.mpr hi, by rw [List.getElem?_eq_getElem hi]; exact e⟩
theorem b_anyl {a : Addr} {vs : List Value} {ns : List Bool} (hh : A.handled = none) (hX : X.h = s.heap) (R : Rel c X σ) (hl : s.heap.IsList a vs.toArray) (hv : VRs c X ps vs) (hi : boolsOf ps = some ns) :
    wpAny (model c.prog c.w) A (call (.builtin "any") [.ref a]) (fun v s' => Post c none' X σ s σ (fun X' => VR c X' (.bool (ns.any id)) v) s') E s := by
  have hn : vs.toArray.size = ns.length := by simp [hv.length, bools_len hi]
  refine call_any_walk (iter_list hl fun It eI hne h' eh hit hl' => ?_)
  refine ⟨It, _, _, _, _, _, fun i => (ns[i]?).getD false, rfl, Walks.list (A := A.in1) hh It a hne vs.toArray, ⟨hit, hl'⟩, ?_, fun h'' tk hk => ?_⟩
  · intro i v s₂ Q E' hP q
    have hP' : vs[i]? = some v := by rw [List.getElem?_toArray] at hP; exact hP
    rw [bools_at hv hi i v hP']
    exact wpAny_truthy_bool q
  · subst eI eh
    refine post_kept hX R (keep_it (s := s) (h' := s.heap) hk) fun _ => ?_
    show _ = _
    rw [hn, any_range]
end
end Mine
namespace Mine
open PySem PyProof.V PyProof.Rows
set_option autoImplicit false
set_option linter.unusedVariables false
theorem miss_keys_list : typeLookup (.type "list") "keys" = pure none := am_miss_of_fast (by decide +kernel)
theorem keys_miss {prog : Program} {w : World} {A : Around} {E : Value → Shared → Prop} {s : Shared} {a : Addr} {xs : Array Value} {k : Nat} {Q : Option Value → Shared → Prop}
    (hx : s.heap.get? a = some { cls := .type "list", data := .seq xs k }) (hA : A.handled = none)
    (h : ∀ h' tk, (∀ b o, s.heap.get? b = some o → h'.get? b = some o) → Q none { s with heap := h', toks := tk }) :
    wpAny (model prog w) A (getAttr? (.ref a) "keys") Q E s := by
  obtain ⟨hp, g, d, tk, os⟩ := s
  have hT : ∀ tk', (⟨hp, g, d, tk', os⟩ : Shared).TypeIs (.ref a) "list" := fun _ => ⟨_, hx, rfl⟩
  have f1 := sub_AttributeError
  have f3 := F.slot_list_getattribute.lookup
  have f4 := F.slot_list_getattribute.bind (.ref a)
  have f5 := am_list_getattr_none
  unfold getAttr? getAttrBy? getAttrBy
  repeat (any_goals (first | assumption | exact hT _ | ((with_reducible show wpAny _ _ (call (Value.builtin "list.__getattribute__") _ _) _ _ _); refine call_meets F.slot_list_getattribute (hT _) am_entry_list_getattribute (F.args_list_getattribute_2 _ _) (meets_getattribute_miss_list a xs k #[] "keys" _ miss_keys_list (by decide) (by size_fits)) ⟨hx, hA, fun h' tk' e hx' => ?_⟩) | wp_step))
  obtain ⟨t', u', he⟩ := hx'.there
  show wpAny _ _ (getattributeRaised _ _ _ _ _ _ _) _ _ _
  unfold getattributeRaised
  repeat (any_goals (first | assumption | wp_step))
  all_goals exact h _ _ hx'.keeps

theorem entry_update_loop : entryFor table "dict.update.loop" = some Builtin.«dict.update.loop» := entryFor_of_tree (by kernel_rfl)
theorem plain_update_loop : plainId "dict.update.loop" = true := by decide +kernel

noncomputable def PairAt (h : Heap) (kvs : List (Int × Value)) (i : Nat) (v : Value) : Prop :=
  ∃ a k t x, kvs[i]? = some (k, x) ∧ v = .ref a ∧ h.IsTuple a [.int k t, x].toArray

theorem code_update_loop {prog : Program} {w : World} {A : Around} {R : Result → Shared → Prop} {I ax D : Addr} {items : Array Value} {h₀ : Heap} {kvs : List (Int × Value)}
    (W : Walks prog w A.in1 I [I, ax] [I] items.size (fun i v => items[i]? = some v) (fun i h => h.IsListIter I ax i ∧ h.IsList ax items))
    (hn : items.size = kvs.length) (hit : ∀ i v, items[i]? = some v → PairAt h₀ kvs i v) (hI : h₀.get? I = none) (hD : h₀.get? D = none) (hID : I ≠ D) (hax : ∃ o, h₀.get? ax = some o) (hsz : kvs.length ≤ 2 * LIM) :
    ∀ (k i : Nat) (s : Shared), items.size - i = k → i ≤ items.size → (s.heap.IsListIter I ax i ∧ s.heap.IsList ax items) → s.heap.DictOf (intKind prog w) D (merged [] (kvs.take i)) →
    (∀ b o, h₀.get? b = some o → s.heap.get? b = some o) →
    (∀ h' tk, h'.DictOf (intKind prog w) D (merged [] kvs) → (∀ b o, h₀.get? b = some o → h'.get? b = some o) → R (.ok (.ret .none)) { s with heap := h', toks := tk }) →
    codeAny (model prog w) A (.builtin "dict.update.loop" ⟨[.ref D, .ref I, .int i 0, .none], []⟩) R s := by
  have haxI : ax ≠ I := fun e => by obtain ⟨o, ho⟩ := hax; rw [e, hI] at ho; cases ho
  have haxD : ax ≠ D := fun e => by obtain ⟨o, ho⟩ := hax; rw [e, hD] at ho; cases ho
  intro k
  induction k with
  | zero =>
    intro i s hk hi hst hd hkeep hR
    have hin : i = items.size := by omega
    subst hin
    refine codeAny_builtin entry_update_loop ?_
    rw [Around.under_plainId plain_update_loop _]
    show wpAny _ A.in1 (pyNext (.ref I) >>= _) _ _ s
    refine wpAny_bind (W.done s _ _ hst fun h' tk hk' => ?_)
    refine wpAny_bind (wpAny_pure (wpAny_pure ?_))
    rw [hn, List.take_length] at hd
    have hd' : h'.DictOf (intKind prog w) D (merged [] kvs) := by
      obtain ⟨o, es, ep, ho, r⟩ := hd
      exact ⟨o, es, ep, hk' D o (by simpa using hID.symm) ho, r⟩
    exact hR h' tk hd' fun b o e => hk' b o (by
      intro hm
      rw [List.mem_singleton.mp hm, hI] at e; cases e) (hkeep b o e)
  | succ k ih =>
    intro i s hk hi hst hd hkeep hR
    have hlt : i < items.size := by omega
    refine codeAny_builtin entry_update_loop ?_
    rw [Around.under_plainId plain_update_loop _]
    show wpAny _ A.in1 (pyNext (.ref I) >>= _) _ _ s
    refine wpAny_bind (W.item i s _ _ hlt hst fun v h' tk hP hst' hk' => ?_)
    have hkeep' : ∀ b o, h₀.get? b = some o → h'.get? b = some o := fun b o e => hk' b o (by
      intro hm
      rw [List.mem_singleton.mp hm, hI] at e; cases e) (hkeep b o e)
    have hd' : h'.DictOf (intKind prog w) D (merged [] (kvs.take i)) := by
      obtain ⟨o, es, ep, ho, r⟩ := hd
      exact ⟨o, es, ep, hk' D o (by simpa using hID.symm) ho, r⟩
    obtain ⟨a, key, t, x, hkv, rfl, ⟨oT, hoT, hcT, n, hdT⟩⟩ := hit i v hP
    have hT : (Shared.TypeIs { s with heap := h', toks := tk } (.ref a) "tuple") := ⟨oT, hkeep' _ _ hoT, hcT⟩
    refine wpAny_bind (wpAny_holding ?_)
    refine wpAny_bind (wpAny_tryCatch ?_)
    show wpAny _ _ (Builtin.Dict.pairItems (.ref a)) _ _ _
    unfold Builtin.Dict.pairItems
    refine wpAny_bind (wpAny_typeOf hT ?_)
    rw [if_pos (by decide)]
    refine wpAny_bind (wpAny_seqItems (hkeep' _ _ hoT) hdT (wpAny_pure ?_))
    show wpAny _ _ (holding [Value.int key t, x] (dictSet D (.int key t) x)) _ _ _
    have hl : (merged [] (kvs.take i)).length ≤ sizeLine := by
      have h2 : (merged [] (kvs.take i)).length ≤ 0 + (kvs.take i).length := merged_length_le (K := Int) [] (kvs.take i)
      have h1 : (kvs.take i).length ≤ kvs.length := by rw [List.length_take]; with_reducible exact O.a16h
      have := lim_le
      omega
    refine wpAny_holding (wpAny_dictSet_pairs (hsz := hl) (knd := intKind prog w) (k := key) (by show Value.isInt key (.int key t) = true; simp [Value.isInt]) hd' fun h'' hd'' hs'' => ?_)
    refine wpAny_pure ⟨plainId_quiet plain_update_loop _, ?_⟩
    have hb : ∀ b o, b ≠ D → h'.get? b = some o → h''.get? b = some o := fun b o hb e => (hs''.2 b hb).trans e
    refine ih (i + 1) _ (by with_reducible exact O.a3' (by assumption)) hlt ?_ ?_ (fun b o e => hb b o (fun z => by rw [z, hD] at e; cases e) (hkeep' b o e)) fun h3 tk3 hd3 hk3 => hR h3 tk3 hd3 hk3
    · obtain ⟨o1, e1, r1⟩ := hst'.1
      obtain ⟨o2, e2, r2⟩ := hst'.2
      exact ⟨⟨o1, hb _ _ hID e1, r1⟩, ⟨o2, hb _ _ haxD e2, r2⟩⟩
    · rw [merged_take_succ [] kvs i (key, x) hkv]
      exact hd''

theorem get_none_size {h h' : Heap} (hk : ∀ b o, h.get? b = some o → h'.get? b = some o) : h.get? h'.objs.size = none := by
  cases e : h.get? h'.objs.size with
  | none => rfl
  | some o => exact absurd (Heap.lt_size (hk _ _ e)) (Nat.lt_irrefl _)

theorem call_dict_pairs {prog : Program} {w : World} {A : Around} {E : Value → Shared → Prop} {s : Shared} {a : Addr} {vs : List Value} {kvs : List (Int × Value)} {Q : Value → Shared → Prop} (hh : A.handled = none)
    (hl : s.heap.PlainList a vs.toArray) (hn : vs.length = kvs.length) (hit : ∀ i v, vs[i]? = some v → PairAt s.heap kvs i v) (hsz : kvs.length ≤ 2 * LIM)
    (h : ∀ h' tk, h'.DictOf (intKind prog w) s.heap.objs.size (merged [] kvs) → (∀ b o, s.heap.get? b = some o → h'.get? b = some o) → Q (.ref s.heap.objs.size) { s with heap := h', toks := tk }) :
    wpAny (model prog w) A (call (.type "dict") [.ref a]) Q E s := by
  refine callType_codes (Q₁ := fun obj s₁ => obj = .ref s.heap.objs.size ∧ s₁ = { s with heap := s.heap.push { cls := .type "dict", data := .dict #[] } }) F.kt_called_dict (F.kt_typeCall_dict_1 _) PySem.F.entry_dict_init (kt_code_dict_new _ ⟨rfl, rfl⟩) ?_
  rintro obj s₁ ⟨rfl, rfl⟩
  have hnew : (s.heap.push { cls := .type "dict", data := .dict #[] }).DictOf (intKind prog w) s.heap.objs.size [] := Heap.DictOf.new s.heap
  have hk1 : ∀ b o, s.heap.get? b = some o → (s.heap.push { cls := .type "dict", data := .dict #[] }).get? b = some o := fun b o e => Heap.get?_push_of_some _ e
  have hl1 := hl.at fun o => hk1 a o
  refine ⟨hnew.typeIs, PySem.F.args_dict_init_2 _ _, ?_⟩
  unfold Builtin.«dict.__init__»
  refine wpAny_bind ?_
  unfold Builtin.Dict.selfAndRest
  refine wpAny_bind (wpAny_notOrdered_dict hnew.typeIs ?_)
  show wpAny _ _ (pure (s.heap.objs.size, [Value.ref a])) _ _ _
  refine wpAny_pure ?_
  show wpAny _ _ (Builtin.Dict.updateFrom "dict.__init__" s.heap.objs.size (.ref a) [] .none) _ _ _
  unfold Builtin.Dict.updateFrom
  obtain ⟨n, ho⟩ := hl1
  refine wpAny_bind (wpAny_typeOf ⟨_, ho, rfl⟩ ?_)
  rw [if_pos (by decide)]
  refine wpAny_bind (keys_miss ho hh fun h' tk hk2 => ?_)
  rw [if_pos (by rfl)]
  refine wpAny_bind (wpAny_rule ?_)
  have ho2 := hk2 _ _ ho
  refine wpAny_bind (iter_list (c := ⟨prog, w, s.heap, fun _ => 0, fun _ => 0⟩) ⟨_, ho2, rfl, n, rfl⟩ fun It eI hne h2 eh hit2 hl2 => ?_)
  refine wpAny_pure ?_
  have hk02 : ∀ b o, s.heap.get? b = some o → h'.get? b = some o := fun b o e => hk2 b o (hk1 b o e)
  have hdI : s.heap.objs.size ≠ It := by
    obtain ⟨o, es, ep, hd, _⟩ := hnew
    have := Heap.lt_size (hk2 _ _ hd)
    rw [eI]
    exact Nat.ne_of_lt this
  have hk03 : ∀ b o, s.heap.get? b = some o → h2.get? b = some o := fun b o e => by rw [eh]; exact Heap.get?_push_of_some _ (hk02 b o e)
  have hd2 : h2.DictOf (intKind prog w) s.heap.objs.size [] := by
    obtain ⟨o, es, ep, hd, r⟩ := hnew
    exact ⟨o, es, ep, by rw [eh]; exact Heap.get?_push_of_some _ (hk2 _ _ hd), r⟩
  refine ⟨plainId_quiet plain_update_loop _, ?_⟩
  refine code_update_loop (A := A.in1) (h₀ := s.heap) (D := s.heap.objs.size) (Walks.list (A := A.in1.in1) hh It a hne vs.toArray) (by simpa using hn) (fun i v e => hit i v (by simpa using e)) (by rw [eI]; exact get_none_size hk02)
    (Heap.get?_none_of_le (Nat.le_refl _)) hdI.symm (by obtain ⟨n, e⟩ := hl; exact ⟨_, e⟩) hsz _ 0 _ rfl (Nat.zero_le _) ⟨hit2, hl2⟩ ?_ hk03 fun h3 tk3 hd3 hk3 => ?_
  · exact hd2
  · exact ⟨rfl, h h3 tk3 hd3 hk3⟩

variable {c : Cx} {X : Vw} {σ σ' : St} {A : Around} {s : Shared}
theorem VRk.any {k : Int} : ∀ {ps : List (Int × PV)} {kvs : List (Int × Value)}, VRk c X ps kvs → (kvs.any fun kv => decide (kv.1 = k)) = (kvGet k ps).isSome
  | [], kvs, h => by cases h; rfl
  | (l, q) :: ps, kvs, h => by
    obtain ⟨v, r, rfl, h1, h2⟩ := h
    unfold kvGet
    by_cases e : k = l
    · subst e; simp
    · have e' : ¬ l = k := fun z => e z.symm
      simp only [List.any_cons, e', decide_false, Bool.false_or, if_neg e]
      exact VRk.any h2
theorem kvPut_keys_new {k : Int} {v : PV} : ∀ {ps : List (Int × PV)}, kvGet k ps = none → kvPut k v ps = ps ++ [(k, v)]
  | [], _ => rfl
  | (l, q) :: ps, h => by
    unfold kvGet at h
    split at h
    · cases h
    · rename_i e
      simp only [kvPut, if_neg e, List.cons_append, kvPut_keys_new h]
theorem VRk.snoc {p : PV} {v : Value} {k : Int} (hv : VR c X p v) : ∀ {ps : List (Int × PV)} {kvs : List (Int × Value)}, VRk c X ps kvs → VRk c X (ps ++ [(k, p)]) (kvs ++ [(k, v)])
  | [], kvs, h => by cases h; exact ⟨v, [], rfl, hv, rfl⟩
  | (l, q) :: ps, kvs, h => by
    obtain ⟨u, r, rfl, h1, h2⟩ := h
    exact ⟨u, r ++ [(k, v)], rfl, h1, VRk.snoc hv h2⟩
theorem VRk.absent {k : Int} {v : Value} : ∀ {kvs : List (Int × Value)}, k ∉ kvs.map (·.1) → kvs.map (fun kv => if kv.1 = k then (kv.1, v) else kv) = kvs
  | [], _ => rfl
  | (l, u) :: r, h => by
    simp only [List.map_cons, List.mem_cons, not_or] at h
    rw [List.map_cons, if_neg (fun e => h.1 e.symm), VRk.absent h.2]
theorem VRk.upd {p : PV} {v : Value} {k : Int} (hv : VR c X p v) : ∀ {ps : List (Int × PV)} {kvs : List (Int × Value)}, VRk c X ps kvs → (kvs.map (·.1)).Nodup → (kvGet k ps).isSome = true →
    VRk c X (kvPut k p ps) (kvs.map fun kv => if kv.1 = k then (kv.1, v) else kv)
  | [], kvs, h, _, e => by simp [kvGet] at e
  | (l, q) :: ps, kvs, h, hn, e => by
    obtain ⟨u, r, rfl, h1, h2⟩ := h
    unfold kvGet at e
    unfold kvPut
    simp only [List.map_cons, List.nodup_cons] at hn
    by_cases hk : k = l
    · subst hk
      simp only [if_true, List.map_cons]
      rw [VRk.absent hn.1]
      exact ⟨v, r, rfl, hv, h2⟩
    · rw [if_neg hk] at e ⊢
      rw [List.map_cons, if_neg (fun z => hk z.symm)]
      exact ⟨u, _, rfl, h1, VRk.upd hv h2 hn.2 e⟩
theorem VRk.put {p : PV} {v : Value} {k : Int} {ps : List (Int × PV)} {kvs : List (Int × Value)} (h : VRk c X ps kvs) (hv : VR c X p v) (hn : (kvs.map (·.1)).Nodup) : VRk c X (kvPut k p ps) (stored kvs k v) := by
  unfold stored
  rw [h.any (k := k)]
  cases e : (kvGet k ps).isSome with
  | true => rw [if_pos rfl]; exact h.upd hv hn e
  | false =>
    rw [if_neg (by simp), kvPut_keys_new (by simpa using e)]
    exact h.snoc hv
theorem stored_nodup {k : Int} {v : Value} {kvs : List (Int × Value)} (hn : (kvs.map (·.1)).Nodup) : ((stored kvs k v).map (·.1)).Nodup := by
  unfold stored
  split
  · rw [List.map_map, show ((fun kv : Int × Value => kv.1) ∘ fun kv => if kv.1 = k then (kv.1, v) else kv) = (·.1) from by funext kv; simp only [Function.comp]; split <;> rfl]; exact hn
  · rename_i h
    rw [List.map_append, List.nodup_append]
    refine ⟨hn, by simp, fun a ha b hb e => ?_⟩
    simp at hb
    subst hb; subst e
    apply h
    obtain ⟨kv, hm, e⟩ := List.mem_map.mp ha
    exact List.any_eq_true.mpr ⟨kv, hm, by simpa using e⟩
theorem VRk.putAll : ∀ {qs : List (Int × PV)} {us : List (Int × Value)} {ps : List (Int × PV)} {kvs : List (Int × Value)}, VRk c X ps kvs → VRk c X qs us → (kvs.map (·.1)).Nodup → VRk c X (kvPutAll ps qs) (merged kvs us)
  | [], us, ps, kvs, h, g, _ => by cases g; exact h
  | (k, q) :: qs, us, ps, kvs, h, g, hn => by
    obtain ⟨u, r, rfl, g1, g2⟩ := g
    exact VRk.putAll (ps := kvPut k q ps) (kvs := stored kvs k u) (h.put g1 hn) g2 (stored_nodup hn)

theorem kvPut_len {k : Int} {v : PV} : ∀ {ps : List (Int × PV)}, (kvPut k v ps).length ≤ ps.length + 1
  | [] => by simp [kvPut]
  | (l, q) :: ps => by
    unfold kvPut
    split
    · simp
    · have := kvPut_len (k := k) (v := v) (ps := ps)
      simp; omega
theorem kvPutAll_len : ∀ {qs ps : List (Int × PV)}, (kvPutAll ps qs).length ≤ ps.length + qs.length
  | [], ps => by simp [kvPutAll]
  | (k, q) :: qs, ps => by
    have h1 := kvPutAll_len (qs := qs) (ps := kvPut k q ps)
    have h2 := kvPut_len (k := k) (v := q) (ps := ps)
    simp only [kvPutAll, List.length_cons]
    omega

theorem pairsOf_some {p : PV} {ps : List PV} {qs : List (Int × PV)} (e : pairsOf (p :: ps) = some qs) : ∃ k v l, p = .tup [.int k, v] ∧ pairsOf ps = some l ∧ qs = (k, v) :: l := by
  obtain ⟨us, rfl, e⟩ := onTup_some e
  obtain ⟨k, v, rfl, e⟩ := on2_some e
  obtain ⟨k, rfl, e⟩ := onInt_some e
  obtain ⟨l, hl, rfl⟩ := map_some' e
  exact ⟨k, v, l, rfl, hl, rfl⟩
theorem pairs_at : ∀ {ps : List PV} {vs : List Value} {qs : List (Int × PV)}, VRs c X ps vs → pairsOf ps = some qs → ∃ kvs, VRk c X qs kvs ∧ ∀ i v, vs[i]? = some v → PairAt X.h kvs i v := by
  intro ps
  induction ps with
  | nil => intro vs qs h e; cases h; cases e; exact ⟨[], rfl, fun i v z => nomatch z⟩
  | cons p ps ih =>
    intro vs qs h e
    obtain ⟨k, p, l, rfl, hl, rfl⟩ := pairsOf_some e
    obtain ⟨v, r, rfl, ⟨a, ws, rfl, fz, ht, _, hw⟩, h2⟩ := h
    obtain ⟨v0, r0, rfl, ⟨t, rfl⟩, v1, r1, rfl, hx, hz⟩ := hw
    cases hz
    obtain ⟨kvs, h3, h4⟩ := ih h2 hl
    refine ⟨(k, v1) :: kvs, ⟨v1, kvs, rfl, hx, h3⟩, fun i v z => ?_⟩
    cases i with
    | zero => cases z; exact ⟨a, k, t, v1, rfl, rfl, ht⟩
    | succ i => exact h4 i v z
theorem pairsOf_len : ∀ {ps : List PV} {qs : List (Int × PV)}, pairsOf ps = some qs → qs.length = ps.length := by
  intro ps
  induction ps with
  | nil => intro qs e; cases e; rfl
  | cons p ps ih =>
    intro qs e
    obtain ⟨k, p, l, rfl, hl, rfl⟩ := pairsOf_some e
    rw [List.length_cons, List.length_cons, ih hl]

theorem new_ne_sys (hX : X.h = s.heap) (R : Rel c X σ) (hS : ∃ o, c.h₀.get? cStatics = some o) : s.heap.objs.size ≠ sysModules := fun e => by
  obtain ⟨o, ho⟩ := hS
  have := Heap.lt_size (R.base _ _ ho).2
  rw [hX, e] at this
  exact absurd this (by decide)

theorem b_dict_pairs {a : Addr} {ps : List PV} {vs : List Value} {qs : List (Int × PV)} {E : Value → Shared → Prop} (hh : A.handled = none) (hX : X.h = s.heap) (R : Rel c X σ) (hS : ∃ o, c.h₀.get? cStatics = some o) (hl : s.heap.PlainList a vs.toArray) (hv : VRs c X ps vs) (hn : ps.length ≤ 2 * LIM)
    (hq : pairsOf ps = some qs) :
    wpAny (model c.prog c.w) A (call (.type "dict") [.ref a]) (fun v s' => Post c none' X σ s σ (fun X' => VR c X' (.dct (kvPutAll [] qs)) v) s') E s := by
  obtain ⟨kvs, hk, hit⟩ := pairs_at hv hq
  have hlen := pairsOf_len hq
  have hlen2 := hk.length
  have hlen3 := hv.length
  refine call_dict_pairs hh hl (by omega) (fun i v e => hX ▸ hit i v e) (by omega) fun h' tk hd hkeep => ?_
  have hd' := hd
  obtain ⟨o, es, ep, ho, _⟩ := hd'
  refine post_newat hX R s.heap.objs.size hkeep (Heap.get?_none_of_le (Nat.le_refl _)) ⟨o, ho⟩ fun L => ?_
  refine ⟨_, _, rfl, .inr rfl, new_ne_sys hX R hS, hd, ?_, VRk.putAll (ps := []) (kvs := []) rfl (VRk.le L _ _ hk) List.nodup_nil⟩
  have := kvPutAll_len (qs := qs) (ps := [])
  simp at this
  omega
end Mine
namespace Mine
open PySem PyProof.V PyProof.Rows
set_option autoImplicit false
set_option linter.unusedVariables false
variable {c : Cx} {X : Vw} {σ σ' : St} {A : Around} {s : Shared}

theorem ref_at {h h' : Heap} {l : Addr} (hs : Heap.SameBut l h h') : ∀ b ob, b ≠ l → h.get? b = some ob → h'.get? b = some ob := fun b ob hb e => (hs.2 b hb).trans e

variable {m : Now c}
theorem size_line {ps : List PV} {vs : List Value} (hv : VRs c X ps vs) (hn : ps.length ≤ 2 * LIM) : vs.length ≤ sizeLine := by
  rw [hv.length]
  exact Nat.le_trans hn lim_le
theorem lim2 {n : Nat} (h : n < LIM) : n + 1 ≤ 2 * LIM := Nat.le_trans h (Nat.le_mul_of_pos_left LIM (by decide))
theorem dictOf_born {h : Heap} {a : Addr} {kvs : List (Int × Value)} (hd : h.DictOf (intKind c.prog c.w) a kvs) : ∃ o, h.get? a = some o := by
  obtain ⟨o, _, _, ho, _⟩ := hd
  exact ⟨o, ho⟩
theorem dictOf_nodup {h : Heap} {a : Addr} {kvs : List (Int × Value)} (hd : h.DictOf (intKind c.prog c.w) a kvs) : (kvs.map (·.1)).Nodup := by
  obtain ⟨_, _, _, _, _, _, _, _, n⟩ := hd
  exact n
theorem Ends.list {α β : Type} {cur : Addr → Prop} {V : Now c → β → α → Prop} {Q : β → St → Prop} {r : β} {v : α} {i : Nat} {ps qs : List PV} {vs us : List Value} {n : Nat} {f : Array Value → Array Value} (lv : Live m.σ i (.list ps))
    (hl : m.s.heap.get? (m.X.ι i).2 = some { cls := .type "list", data := .seq vs.toArray n }) (hf : f vs.toArray = us.toArray) (hu : VRs c m.X qs us) (hn : qs.length ≤ 2 * LIM) (hV : ∀ n' : Now c, V n' r v) (q : Q r (m.σ.set i (some (.list qs)))) :
    Ends cur V m Q v (sh m.s (m.s.heap.update (m.X.ι i).2 (Obj.mapSeq f)) m.s.toks) := by
  have e := PySem.IsL.update (n := n) hl f
  rw [hf] at e
  exact Ends.upd (o := .list qs) lv (ref_at (Heap.SameBut.update ..)) ⟨_, e⟩ (fun L => ⟨(m.R.live i _ lv).2.1, hn, us, ⟨_, e⟩, VRs.le L _ _ hu⟩) (fun n _ => hV n) q

theorem snd_append {i : Nat} {ps : List PV} {us : List Value} {Q : PV → St → Prop} (hv : VRs c m.X ps us) (h : B.W (B.methV .append (.ref i) ps) m.σ Q) :
    Wp A (call (.builtin "list.append") ([.ref (m.X.ι i).1] ++ us)) m Q := by
  revert hv
  refine B.M.onOne_e h fun p h hv => ?_
  refine hv.one_e fun v hv => ?_
  refine B.M.There_e h fun o lv h => ?_
  revert lv
  refine B.M.onList_e h fun ps h lv => ?_
  refine B.Fits_e h fun hlt q => ?_
  refine (m.R.live i _ lv).2.list_e fun e hn vs n hl hvs => e ▸ ?_
  have hl' := m.hX ▸ hl
  exact call_meets PySem.F.slot_list_append ⟨_, hl', rfl⟩ PySem.F.entry_list_append (PySem.F.args_list_append_2 _ _) (list_append _ vs.toArray n v (size_line hvs hn)) ⟨hl',
    Ends.list (V := VN) (r := .none) (qs := ps ++ [p]) (us := vs ++ [v]) lv hl' (List.push_toArray _ _) (hvs.append (VRs.cons hv VRs.nil)) (by rw [List.length_append]; exact lim2 hlt) (fun _ => rfl) q⟩

theorem VRk.getD {kvs : List (Int × PV)} {us : List (Int × Value)} {k : Int} {d : PV} {dv : Value} (hv : VRk c X kvs us) (hd : VR c X d dv) : VR c X ((kvGet k kvs).getD d) ((valueAt us k).getD dv) := by
  cases e : kvGet k kvs with
  | none => rw [hv.none e]; exact hd
  | some p => exact (hv.get e).elim fun v g => g.1 ▸ g.2
theorem snd_get {kvs : List (Int × PV)} {ps : List PV} {o : Value} {us : List Value} {Q : PV → St → Prop} (ho : VR c m.X (.dct kvs) o) (hv : VRs c m.X ps us) (h : B.W (B.methV .get (.dct kvs) ps) m.σ Q) :
    Wp A (call (.builtin "dict.get") ([o] ++ us)) m Q := by
  revert hv
  refine B.M.onTwo_e h fun p d h => ?_
  refine B.M.onInt_e h fun k h hv => ?_
  refine hv.two_e fun v dv hk hd => hk.int_e fun t => ho.dct_e fun a us f ns hl _ hv => ?_
  have hl' := m.hX ▸ hl
  exact call_meetsIn PySem.F.slot_dict_get hl'.mapOf.typeIs PySem.F.entry_dict_get (PySem.F.args_dict_get_3 _ _ _) (meets_dict_get_default (intKind c.prog c.w) a (int_is k t) (dct_ne ns) dv) ⟨_, hl'.mapOf, Ends.tok (r := (kvGet k kvs).getD d) (hv.getD hd) h⟩

theorem snd_setdefault {i : Nat} {ps : List PV} {us : List Value} {Q : PV → St → Prop} (hv : VRs c m.X ps us) (h : B.W (B.methV .setdefault (.ref i) ps) m.σ Q) :
    Wp A (call (.builtin "dict.setdefault") ([.ref (m.X.ι i).1] ++ us)) m Q := by
  revert hv
  refine B.M.onTwo_e h fun p d h => ?_
  refine B.M.onInt_e h fun k h hv => ?_
  refine hv.two_e fun v dv hk hd => hk.int_e fun t => ?_
  refine B.M.There_e h fun o lv h => ?_
  revert lv
  refine B.M.onDict_e h fun kvs h lv => ?_
  refine (m.R.live i _ lv).2.dict_e fun e ns hn us hl hv => e ▸ ?_
  have hl' := m.hX ▸ hl
  refine call_meetsIn PySem.F.slot_dict_setdefault hl'.typeIs PySem.F.entry_dict_setdefault (PySem.F.args_dict_setdefault_3 _ _ _) (kt_meets_setdefault (intKind c.prog c.w) _ (int_is k t) (dct_ne ns) dv) ⟨us, hl', by rw [hv.length]; exact Nat.le_trans hn lim_le, ?_⟩
  cases e3 : kvGet k kvs with
  | some p =>
    rw [e3] at h
    exact (hv.get e3).elim fun u g => ⟨fun v e2 => by cases g.1.symm.trans e2; exact Ends.tok g.2 h, fun e2 => (nomatch g.1.symm.trans e2)⟩
  | none =>
    rw [e3] at h
    refine B.Fits_e h fun hlt q => ⟨fun v e2 => (nomatch (hv.none e3).symm.trans e2), fun e2 h' hd' hs' => ?_⟩
    exact Ends.upd (o := .dict (kvPut k d kvs)) lv (ref_at hs') (dictOf_born hd') (fun L => ⟨e, ns, Nat.le_trans (kvPut_len (k := k) (v := d) (ps := kvs)) (lim2 hlt), _, hd', VRk.le L _ _ (hv.put hd (dictOf_nodup hl'))⟩) (fun n L => VR.le L _ _ hd) q

theorem setAt_neg {l : Addr} {items : Array Value} {n : Nat} {k : Int} {t : Tok} {v : Value} {j : Nat} {E : Value → Shared → Prop} {Q : Unit → Shared → Prop} (ho : s.heap.get? l = some { cls := .type "list", data := .seq items n }) (hj : idx items.size k = some j)
    (q : Q () { s with heap := s.heap.update l (Obj.mapSeq (·.setIfInBounds j v)) }) : wpAny (model c.prog c.w) A (setItem (.ref l) (.int k t) v) Q E s := by
  obtain ⟨h1, h2, h3, h4, h5⟩ := idx_seq hj
  by_cases h0 : 0 ≤ k
  · rw [h5 h0] at q
    exact PySem.W.ki_setAt ho h0 h3 ((Int.toNat_lt h0).mp (h5 h0 ▸ h4)) q
  · obtain ⟨e, hlo⟩ := idx_back hj (Int.lt_of_not_ge h0)
    subst e
    exact PySem.W.ki_setBack ho (Int.lt_of_not_ge h0) hlo h2 q
theorem snd_setSub {p x r : PV} {a b v : Value} {Q : Unit → St → Prop} (ha : VR c m.X p a) (hb : VR c m.X x b) (hv : VR c m.X r v) (h : B.W (B.setSubV p x r) m.σ Q) :
    wpAny (model c.prog c.w) A (setItem a b v) (Ends none' UN m Q) NoE m.s := by
  revert ha hb
  refine B.M.onRef_e h fun i h ha => ?_
  refine B.M.onInt_e h fun k h hb => ?_
  refine ha.ref_e (hb.int_e fun t => ?_)
  refine B.M.There_e h fun o lv h => ?_
  revert lv
  refine B.M.onList_e h fun ps h lv => ?_
  refine B.M.opt_e h fun j hj q => (m.R.live i _ lv).2.list_e fun e hn vs n hl hvs => e ▸ ?_
  have hl' := m.hX ▸ hl
  exact setAt_neg (items := vs.toArray) hl' (hvs.length.symm ▸ hj : idx vs.length k = some j) (Ends.list (us := vs.set j v) lv hl' (List.setIfInBounds_toArray ..) (hvs.set j hv) (by rw [List.length_set]; exact hn) (fun _ => trivial) q)
end Mine
namespace Mine
open PySem PyProof.V PyProof.Rows
set_option autoImplicit false
set_option linter.unusedVariables false
set_option maxRecDepth 100000

theorem slice_noindex {prog : Program} {w : World} {A : Around} {E : Value → Shared → Prop} {s : Shared} {sl : Addr} {Q : Option Int → Shared → Prop} (hT : s.TypeIs (.ref sl) "slice") (h : Q none s) :
    wpAny (model prog w) A (Builtin.List.listSubscript? (.ref sl)) Q E s := by
  unfold Builtin.List.listSubscript?
  refine wpAny_bind (wpAny_specialOf hT slice_no_index ?_)
  simp only [Option.isNone_none, if_true]
  exact wpAny_pure h

theorem setItem_slice {prog : Program} {w : World} {A : Around} {E : Value → Shared → Prop} {s : Shared} {l sl b : Addr} {xs ys : List Value} {n m : Nat} {vl vu : Value} {lo hi : Nat} {Q : Unit → Shared → Prop}
    (hl : s.heap.get? l = some { cls := .type "list", data := .seq xs.toArray n }) (hb : s.heap.get? b = some { cls := .type "list", data := .seq ys.toArray m }) (hne : l ≠ b)
    (hs : s.heap.IsSliceOf sl vl vu .none) (pl : IsPart vl (some (lo : Int))) (pu : IsPart vu (some (hi : Int))) (h1 : lo ≤ hi) (h2 : hi ≤ xs.length) (hsz : xs.length + ys.length ≤ sizeLine)
    (h : Q () { s with heap := s.heap.update l (Obj.mapSeq fun xs => xs.extract 0 lo ++ ys.toArray ++ xs.extract hi xs.size) }) :
    wpAny (model prog w) A (setItem (.ref l) (.ref sl) (.ref b)) Q E s := by
  have hL : s.heap.IsList l xs.toArray := ⟨_, hl, rfl, n, rfl⟩
  have hB : s.heap.IsList b ys.toArray := ⟨_, hb, rfl, m, rfl⟩
  obtain ⟨os, hos, hcs, hds⟩ := id hs
  have hTs : s.TypeIs (.ref sl) "slice" := ⟨os, hos, hcs⟩
  have e0 : sliceBounds (some (lo : Int)) (some (hi : Int)) none xs.toArray.size = ((lo : Int), (hi : Int), 1) := by
    rw [sliceBounds_plain]
    have a1 : clipAt xs.length (lo : Int) = lo := by rw [clipAt_nat]; with_reducible exact O.a16f (by assumption) (by assumption)
    have a2 : clipAt xs.length (hi : Int) = hi := by rw [clipAt_nat]; with_reducible exact O.a16g (by assumption)
    simp [a1, a2]
  unfold setItem
  try with_reducible refine wpAny_holding ?_
  first | refine wpAny_bind (wpAny_pure ?_) | skip
  refine wpAny_bind (wpAny_sequenceKey hL.typeIs (by decide) ?_)
  refine wpAny_bind (wpAny_callSpecial?_slot (name := Str.ofString "__setitem__") hL.typeIs slot_list_setitem
    (wpAny_call_entry slot_list_setitem hL.typeIs entry_list_setitem ?_ (args_list_setitem _ _ _)))
  show wpAny _ _ (Builtin.List.listSubscript? (.ref sl) >>= _) _ _ s
  refine wpAny_bind (slice_noindex hTs ?_)
  show wpAny _ _ (typeOf (.ref sl) >>= _) _ _ s
  refine wpAny_bind (wpAny_typeOf hTs ?_)
  rw [if_neg (by decide)]
  rw [listSliceParts_eq]
  have hstep : ¬ ((rawPart none == rawInt 0) = true) := Bool.false_ne_true
  refine wpAny_bind (wpAny_bind (wpAny_field hos hds (x := .none) rfl (wpAny_bind (wpAny_listPart .none ?_))))
  rw [if_neg hstep]
  refine wpAny_bind (wpAny_field hos hds (x := vl) rfl (wpAny_bind (wpAny_listPart pl ?_)))
  refine wpAny_bind (wpAny_field hos hds (x := vu) rfl (wpAny_bind (wpAny_listPart pu (wpAny_pure ?_))))
  have hsame : Builtin.List.listSameRef (.ref l) (.ref b) = false := by simp [Builtin.List.listSameRef, hne]
  simp only [hsame, Bool.false_eq_true, if_false]
  have items : ∀ {a : Addr} {zs : List Value} {k : Nat} {Q' : Array Value → Shared → Prop} {A' : Around} {E' : Value → Shared → Prop}, s.heap.get? a = some { cls := .type "list", data := .seq zs.toArray k } → Q' zs.toArray s →
      wpAny (model prog w) A' (Builtin.List.listItems (.ref a)) Q' E' s := fun ha q => by
    unfold Builtin.List.listItems
    exact wpAny_bind (wpAny_seqItems ha rfl (wpAny_pure q))
  refine wpAny_bind ?_
  · unfold Builtin.List.listAllItems
    refine wpAny_bind (wpAny_typeOf hB.typeIs ?_)
    rw [if_pos (by decide)]
    refine items hb ?_
    refine wpAny_bind (items hl ?_)
    refine wpAny_bind (wpAny_of_eq (sliceIndices_raw (some (lo : Int)) (some (hi : Int)) none xs.toArray.size (by simp)) ?_)
    rw [e0]
    simp only [beq_self_eq_true, if_true]
    refine wpAny_bind (wpAny_rule ?_)
    have hlong : Builtin.List.listTooLong (xs.toArray.size + ys.toArray.size) = false := by
      unfold Builtin.List.listTooLong
      simp only [List.size_toArray, decide_eq_false_iff_not]
      omega
    rw [hlong]
    simp only [Bool.false_eq_true, if_false]
    show wpAny _ _ (updateSeq l _ >>= _) _ _ s
    have e1 : (lo : Int).toNat = lo := Int.toNat_natCast _
    have e2 : (max (lo : Int) (hi : Int)).toNat = hi := by with_reducible exact O.a21c (by assumption)
    rw [e1, e2]
    refine wpAny_bind (wpAny_updateSeq hl rfl ?_ (by simp; omega) (by simp; with_reducible exact O.a29a (by assumption) (by assumption) (by assumption)))
    refine wpAny_bind (wpAny_letGo (wpAny_pure ⟨_, rfl, wpAny_pure h⟩))
end Mine
namespace Mine
open PySem PyProof.V PyProof.Rows
set_option autoImplicit false
set_option linter.unusedVariables false
variable {c : Cx} {X : Vw} {σ σ' : St} {A : Around} {s : Shared}

variable {m : Now c}
noncomputable def Now.ice (m : Now c) {i : Nat} {o : PObj} (lv : Live m.σ i o) : Now c := ⟨m.X.fz fun b => b = (m.X.ι i).2, m.σ.set i none, m.s, m.hX, (m.R.freeze lv).1⟩
theorem To.ice {i : Nat} {o : PObj} (lv : Live m.σ i o) : To none' m (m.ice lv) := ⟨⟨_, _, rfl⟩, (m.R.freeze lv).2⟩
noncomputable def VNk (n : Now c) (p : List (Int × PV)) (v : List (Int × Value)) : Prop := VRk c n.X p v
noncomputable def VNf (n : Now c) (p : List (At × PV)) (v : PySem.Str → Option Value) : Prop := VRf c n.X p v
noncomputable def Frz (c : Cx) (f : PV → B.M PV) : Prop := ∀ (m : Now c) (p : PV) (v : Value) (Q : PV → St → Prop), VR c m.X p v → B.W (f p) m.σ Q → Ends none' VN m Q v m.s
theorem frz_list {f : PV → B.M PV} (hf : Frz c f) (ps : List PV) : ∀ (vs : List Value) (m : Now c) (s : Shared) (Q : List PV → St → Prop), m.s = s → VRs c m.X ps vs → B.W (B.mapL f ps) m.σ Q → Ends none' VNs m Q vs s := by
  induction ps with
  | nil => exact fun vs m s Q e hv h => Ends.ret' e hv h
  | cons p ps ih =>
    intro vs m s Q e hv h
    obtain ⟨v, us, rfl, hv1, hv2⟩ := hv
    refine Ends.on (e ▸ hf m p v _ hv1 h) fun n r e t hv1 h => ?_
    exact Ends.on (ih us n s _ e (VRs.le t.le _ _ hv2) h) fun n' r' e t' hv2 h => Ends.ret' e (VRs.cons (VR.le t'.le _ _ hv1) hv2) h
theorem frz_keys {f : PV → B.M PV} (hf : Frz c f) (ps : List (Int × PV)) : ∀ (vs : List (Int × Value)) (m : Now c) (s : Shared) (Q : List (Int × PV) → St → Prop), m.s = s → VRk c m.X ps vs → B.W (B.mapK f ps) m.σ Q → Ends none' VNk m Q vs s := by
  induction ps with
  | nil => exact fun vs m s Q e hv h => Ends.ret' e hv h
  | cons p ps ih =>
    intro vs m s Q e hv h
    obtain ⟨v, us, rfl, hv1, hv2⟩ := hv
    refine Ends.on (e ▸ hf m p.2 v _ hv1 h) fun n r e t hv1 h => ?_
    exact Ends.on (ih us n s _ e (VRk.le t.le _ _ hv2) h) fun n' r' e t' hv2 h => Ends.ret' e (VRk.cons (VR.le t'.le _ _ hv1) hv2) h
theorem frz_fields {f : PV → B.M PV} (hf : Frz c f) (ps : List (At × PV)) : ∀ (g : PySem.Str → Option Value) (m : Now c) (s : Shared) (Q : List (At × PV) → St → Prop), m.s = s → VRf c m.X ps g → B.W (B.mapK f ps) m.σ Q → Ends none' VNf m Q g s := by
  induction ps with
  | nil => exact fun vs m s Q e hv h => Ends.ret' e hv h
  | cons p ps ih =>
    intro g m s Q e hv h
    obtain ⟨⟨v, hm, hv1⟩, hv2⟩ := hv
    refine Ends.on (e ▸ hf m p.2 v _ hv1 h) fun n r e t hv1 h => ?_
    exact Ends.on (ih g n s _ e (VRf.le t.le _ _ hv2) h) fun n' r' e t' hv2 h => Ends.ret' e (VRf.cons hm (VR.le t'.le _ _ hv1) hv2) h
theorem VRs.len {X X' : Vw} {ps qs : List PV} {vs : List Value} {n : Nat} (h : VRs c X ps vs) (g : VRs c X' qs vs) (hn : ps.length ≤ n) : qs.length ≤ n := g.length ▸ h.length.symm ▸ hn
theorem VRk.len {X X' : Vw} {ps qs : List (Int × PV)} {vs : List (Int × Value)} {n : Nat} (h : VRk c X ps vs) (g : VRk c X' qs vs) (hn : ps.length ≤ n) : qs.length ≤ n := g.length ▸ h.length.symm ▸ hn
theorem frz_ref {f : PV → B.M PV} (hf : Frz c f) {i : Nat} {o : PObj} {Q : PV → St → Prop} (lv : Live m.σ i o) (h : B.W (B.frzO f i o) m.σ Q) : Ends none' VN m Q (.ref (m.X.ι i).1) m.s := by
  have L := (To.ice lv).le
  have OR := (m.R.live i o lv).2
  refine Ends.to (To.ice lv) ?_
  cases o with
  | list ps => exact OR.list_e fun e hn vs n hl hv => Ends.on (frz_list hf ps vs (m.ice lv) _ _ rfl (VRs.le L _ _ hv) h) fun n r es t hw q => Ends.ret' es (e ▸ VR.lst_i (t.le.fz _ (.inr rfl)) (t.le.list (.inr rfl) ⟨_, hl⟩) (hv.len hw hn) hw) q
  | dict ps => exact OR.dict_e fun e ns hn vs hl hv => Ends.on (frz_keys hf ps vs (m.ice lv) _ _ rfl (VRk.le L _ _ hv) h) fun n r es t hw q => Ends.ret' es (e ▸ VR.dct_i (t.le.fz _ (.inr rfl)) ns (t.le.dict (.inr rfl) hl) (hv.len hw hn) hw) q
  | inst k fs => exact OR.inst_e fun f nd g I hv => Ends.on (frz_fields hf fs g (m.ice lv) _ _ rfl (VRf.le L _ _ hv) h) fun n r es t hw q => Ends.ret' es (VR.inst_i (t.le.fz _ (.inl f)) (t.le.fz _ (.inr rfl)) (I.keeps (fun o => t.le.kept _ o (.inl f)) (fun o => t.le.kept _ o (.inr rfl))) hw) q
theorem freeze_ok : ∀ n : Nat, Frz c (B.freeze n) := by
  intro n
  induction n with
  | zero => exact fun m p v Q hv h => Ends.ret hv h
  | succ n ih =>
    intro m p v Q hv h
    cases p with
    | ref i =>
      refine B.M.There_e h fun o => ?_
      exact hv.ref_e fun lv h => frz_ref ih lv h
    | lst ps =>
      revert h
      exact hv.lst_e fun a vs f hl hn hv h => Ends.on (frz_list ih ps vs m _ _ rfl hv h) fun n r es t hw q => Ends.ret' es (VR.lst_i (t.le.fz _ f) (t.le.list f hl) (hv.len hw hn) hw) q
    | tup ps =>
      revert h
      exact hv.tup_e fun a vs f hl hn hv h => Ends.on (frz_list ih ps vs m _ _ rfl hv h) fun n r es t hw q => Ends.ret' es (VR.tup_i (t.le.fz _ f) (t.le.tuple f hl) (hv.len hw hn) hw) q
    | _ => exact Ends.ret hv h

theorem extract_list {α : Type} (xs ys : List α) (a b : Nat) : (xs.toArray.extract 0 a ++ ys.toArray ++ xs.toArray.extract b xs.toArray.size) = (xs.take a ++ ys ++ xs.drop b).toArray := by
  apply Array.toList_inj.mp
  simp
  rw [List.take_of_length_le (by simp)]
theorem snd_setSlice {p lo hi q : PV} {o vl vu v : Value} {sl : Addr} {Q : Unit → St → Prop} (ho : VR c m.X p o) (hlo : VR c m.X lo vl) (hhi : VR c m.X hi vu) (hv : VR c m.X q v) (hs : m.s.heap.IsSliceOf sl vl vu .none)
    (h : B.W (B.setSliceV p lo hi q) m.σ Q) : wpAny (model c.prog c.w) A (setItem o (.ref sl) v) (Ends none' UN m Q) NoE m.s := by
  revert ho hlo hhi hv
  refine B.M.onRef_e h fun i h => ?_
  refine B.M.onInt_e h fun a h => ?_
  refine B.M.onInt_e h fun b h => ?_
  refine B.M.onLst_e h fun ys h ho hlo hhi hv => ?_
  revert hs
  refine ho.ref_e (hlo.int_e fun t => hhi.int_e fun t2 => hv.lst_e fun y us fy hy _ hus hs => ?_)
  refine B.M.There_e h fun o lv h => ?_
  revert lv
  refine B.M.onList_e h fun ps h lv => ?_
  obtain ⟨hg, q⟩ := h
  have nf := (m.R.live i _ lv).1
  refine (m.R.live i _ lv).2.list_e fun e hn vs n hl hvs => e ▸ ?_
  have hl' := m.hX ▸ hl
  obtain ⟨k, hy⟩ := (m.hX ▸ hy : m.s.heap.PlainList y us.toArray)
  simp only [Bool.and_eq_true, decide_eq_true_eq] at hg
  obtain ⟨⟨⟨g1, g2⟩, g3⟩, g4⟩ := hg
  rw [← hvs.length, ← hus.length] at g4
  rw [← hvs.length] at g3
  obtain ⟨a, rfl⟩ := Int.eq_ofNat_of_zero_le g1
  obtain ⟨b, rfl⟩ := Int.eq_ofNat_of_zero_le (Int.le_trans g1 g2)
  refine setItem_slice (lo := a) (hi := b) hl' hy (fun z => nf (z ▸ fy)) hs (.int a t) (.int b t2) (Int.ofNat_le.mp g2) (Int.ofNat_le.mp g3) (Nat.le_trans (Nat.le_of_succ_le (lim2 g4)) lim_le) ?_
  exact Ends.list (us := vs.take a ++ us ++ vs.drop b) lv hl' (extract_list _ _ _ _) (((hvs.take _).append hus).append (hvs.drop _)) (by have := hvs.length; have := hus.length; simp only [List.length_append, List.length_take, List.length_drop]; have := lim2 g4; with_reducible exact O.a29b (by assumption) (by assumption) (by assumption) (by assumption) (by assumption)) (fun _ => trivial) q
end Mine
namespace Mine
open PySem PyProof.V PyProof.Rows
set_option autoImplicit false
set_option linter.unusedVariables false
variable {c : Cx} {X X' : Vw} {σ σ' : St} {A : Around} {s : Shared}

theorem Nx.shrink {cur cur' : Addr → Prop} (N : Nx cur' X σ X' σ') (h : ∀ b o, X.h.get? b = some o → cur' b → cur b) : Nx cur X σ X' σ' :=
  { N with keep := fun b o e hm hc => N.keep b o e hm fun z => hc (h b o e z) }
theorem Nx.addFz {cur : Addr → Prop} {D : Addr} (N : Nx cur X σ X' σ') (h : X.h.get? D = none) : Nx cur X σ { X' with Fz := fun b => X'.Fz b ∨ b = D } σ' :=
  ⟨N.n, N.ι, fun b f => .inl (N.fz b f), fun b f => f.elim (N.fz' b) (fun e => .inr (.inl (e ▸ h))), N.mut', N.alive, N.kept, N.keep⟩
theorem Rel.addFz {D : Addr} (R : Rel c X σ) (hD : ∃ o, X.h.get? D = some o) (hm : ¬ Mut X σ D) : Rel c { X with Fz := fun b => X.Fz b ∨ b = D } σ := by
  have L : Le X { X with Fz := fun b => X.Fz b ∨ b = D } := ⟨Nat.le_refl _, fun _ _ => rfl, fun _ h => .inl h, fun _ _ _ e => e⟩
  refine ⟨R.len, fun b o e => ⟨.inl (R.base b o e).1, (R.base b o e).2⟩, fun b f => ?_, fun i o l => ⟨?_, ObjR.le L (fun _ e => e) (R.live i o l).2⟩, R.inj, R.mlt⟩
  · rcases f with f | rfl
    · exact R.fz b f
    · exact hD
  · rintro (f | f)
    · exact (R.live i o l).1 f
    · exact hm ⟨i, o, l, f⟩
theorem dead_fz (R : Rel c X σ) {b : Addr} (h : X.h.get? b = none) : ¬ X.Fz b := fun f => by obtain ⟨o, e⟩ := R.fz b f; rw [h] at e; cases e
theorem dead_mut (R : Rel c X σ) {b : Addr} (h : X.h.get? b = none) : ¬ Mut X σ b := by
  rintro ⟨i, o, l, rfl⟩
  obtain ⟨ob, e⟩ := R.mlt i o l
  rw [h] at e; cases e
theorem Nx.touch {cur : Addr → Prop} {I : Addr} {h' : Heap} (N : Nx cur X σ X' σ') (hI : X.h.get? I = none) (hk : ∀ b o, b ≠ I → X'.h.get? b = some o → h'.get? b = some o) : Nx cur X σ { X' with h := h' } σ' := by
  have ne : ∀ {b o}, X.h.get? b = some o → b ≠ I := fun e z => by rw [z, hI] at e; cases e
  refine ⟨N.n, N.ι, N.fz, N.fz', N.mut', fun b o e => ?_, fun b o f e => hk b o (ne e) (N.kept b o f e), fun b o e m cu => hk b o (ne e) (N.keep b o e m cu)⟩
  obtain ⟨o', e'⟩ := N.alive b o e
  exact ⟨o', hk b o' (ne e) e'⟩
theorem Rel.touch {I : Addr} {h' : Heap} (R : Rel c X σ) (hf : ¬ X.Fz I) (hm : ¬ Mut X σ I) (hk : ∀ b o, b ≠ I → X.h.get? b = some o → h'.get? b = some o) : Rel c { X with h := h' } σ :=
  R.heap fun b o e h => hk b o (fun z => h.elim (fun f => hf (z ▸ f)) fun m => hm (z ▸ m)) e
noncomputable def Out (X : Vw) (σ : St) (b : Addr) : Prop := (∃ o, X.h.get? b = some o) ∧ ¬ X.Fz b ∧ ¬ Mut X σ b
theorem Out.next {cur : Addr → Prop} {b : Addr} (h : Out X σ b) (N : Nx cur X σ X' σ') : Out X' σ' b := by
  obtain ⟨⟨o, e⟩, f, m⟩ := h
  refine ⟨N.alive b o e, fun z => ?_, fun z => ?_⟩
  · rcases N.fz' b z with q | q | q
    · exact f q
    · rw [q] at e; cases e
    · exact m q
  · rcases N.mut' b z with q | q
    · exact m q
    · rw [q] at e; cases e

theorem EnvOk.step {cur : Addr → Prop} {sm : List (PySem.Str × Nat)} {env : PySem.Env} {ρ : Mine.Env} (e : EnvOk c X σ sm env ρ) (N : Nx cur X σ X' σ') (hl : ¬ cur env.locals) (hc : ∀ x a, env.cells.lookup x = some a → ¬ cur a) : EnvOk c X' σ' sm env ρ := by
  obtain ⟨m, hn, hv⟩ := e.loc
  have ol : Out X σ env.locals := ⟨by obtain ⟨o, _, _, ho, _⟩ := hn; exact ⟨o, ho⟩, e.lf⟩
  refine ⟨e.kind, e.glob, e.blt, ⟨m, hn.at' fun o ho => N.keep _ o ho e.lf.2 hl, fun x k pv h1 h2 h3 => ?_⟩, (ol.next N).2, fun x hx => ?_, e.apart⟩
  · obtain ⟨v, g, r⟩ := hv x k pv h1 h2 h3
    exact ⟨v, g, VR.le N.le pv v r⟩
  · obtain ⟨a, u, g, h, f, q, r⟩ := e.cells x hx
    obtain ⟨o, ho, hd⟩ := h
    have oc : Out X σ a := ⟨⟨o, ho⟩, f, q⟩
    refine ⟨a, u, g, ⟨o, N.keep _ o ho q (hc x a g), hd⟩, (oc.next N).2.1, (oc.next N).2.2, fun k pv h1 h2 => ?_⟩
    obtain ⟨v, g, t⟩ := r k pv h1 h2
    exact ⟨v, g, VR.le N.le pv v t⟩
theorem EnvOk.locOut {sm : List (PySem.Str × Nat)} {env : PySem.Env} {ρ : Mine.Env} (e : EnvOk c X σ sm env ρ) : Out X σ env.locals := by
  obtain ⟨m, hn, hv⟩ := e.loc
  exact ⟨by obtain ⟨o, _, _, ho, _⟩ := hn; exact ⟨o, ho⟩, e.lf⟩

structure Iter (c : Cx) (A : Around) (X : Vw) (I : Addr) (ps : List PV) (fp : List Addr) (P : Nat → Value → Prop) (S : Nat → Heap → Prop) : Prop where
  walks : Walks c.prog c.w A I fp [I] ps.length P S
  fps : ∀ b ∈ fp, b = I ∨ X.Fz b
  vals : ∀ i v, P i v → ∃ p, ps[i]? = some p ∧ VR c X p v
  born : ∀ i h, S i h → ∃ o, h.get? I = some o
  go : ∀ (i : Nat) (s : Shared) (target : PySem.Expr) (v : Value) (Q : Unit → Shared → Prop) (E : Value → Shared → Prop), S i s.heap → Q () s → wpAny (model c.prog c.w) A (letOwnedTupleGo target (.ref I) v) Q E s
theorem go_any {I : Addr} {o : Obj} {target : PySem.Expr} {v : Value} {Q : Unit → Shared → Prop} {E : Value → Shared → Prop} {T : String} {fs : Array Value} (ho : s.heap.get? I = some o) (hc : o.cls = .type T) (hd : o.data = .fields fs)
    (hT : (["enumerate", "zip", "dict_itemiterator", "dict_reverseitemiterator", "odict_iterator", "itertools.zip_longest", "itertools.pairwise"].contains T) = false) (h : Q () s) :
    wpAny (model c.prog c.w) A (letOwnedTupleGo target (.ref I) v) Q E s := by
  unfold letOwnedTupleGo
  cases target <;> first
    | exact wpAny_pure h
    | (cases v <;> first
        | exact wpAny_pure h
        | (refine wpAny_bind (wpAny_load ho ?_)
           rw [hc, hd]
           simp only [hT, Bool.false_and, Bool.false_eq_true, if_false]
           exact wpAny_pure h))

theorem Iter.le {I : Addr} {ps : List PV} {fp : List Addr} {P : Nat → Value → Prop} {S : Nat → Heap → Prop} (h : Iter c A X I ps fp P S) (L : Le X X') : Iter c A X' I ps fp P S :=
  ⟨h.walks, fun b hb => (h.fps b hb).imp id (L.fz b), fun i v hp => by obtain ⟨p, e, r⟩ := h.vals i v hp; exact ⟨p, e, VR.le L _ _ r⟩, h.born, h.go⟩
theorem Iter.stay {cur : Addr → Prop} {I : Addr} {ps : List PV} {fp : List Addr} {P : Nat → Value → Prop} {S : Nat → Heap → Prop} {i : Nat} (h : Iter c A X I ps fp P S) (hI : Out X σ I) (hS : S i X.h) (N : Nx cur X σ X' σ') (hc : ¬ cur I) : S i X'.h := by
  refine h.walks.frame i _ _ hS fun b hb o e => ?_
  rcases h.fps b hb with rfl | f
  · exact N.keep _ o e hI.2.2 hc
  · exact N.kept b o f e

theorem isInt_of {k : Int} {v : Value} (h : (intKind c.prog c.w).is k v = true) : ∃ t, v = .int k t := by
  have h' : Value.isInt k v = true := h
  unfold Value.isInt at h'
  split at h'
  · rename_i a t
    have : a = k := by simpa using h'
    exact ⟨t, by rw [this]⟩
  · cases h'
theorem VRs.at {ps : List PV} {vs : List Value} (h : VRs c X ps vs) : ∀ (i : Nat) (v : Value), vs[i]? = some v → ∃ p, ps[i]? = some p ∧ VR c X p v := by
  intro i v e
  have hl := h.length
  have hi : i < ps.length := by rw [← hl]; exact (List.getElem?_eq_some_iff.mp e).1
  obtain ⟨u, e2, r⟩ := h.get (i := i) (p := ps[i]) (by simp [hi])
  rw [e] at e2; cases e2
  exact ⟨ps[i], by simp [hi], r⟩
theorem rangeL_get {lo hi : Int} {i : Nat} (h : i < (rangeL lo hi).length) : (rangeL lo hi)[i]? = some (.int (lo + i)) := by
  unfold rangeL at h ⊢
  simp at h
  simp [h]
theorem rangeL_len {lo hi : Int} : (rangeL lo hi).length = (hi - lo).toNat := by simp [rangeL]
theorem range_small {lo hi : Int} (h1 : fits lo = true) (h2 : fits hi = true) : Builtin.Range.small lo hi 1 = true := by
  have a := fits_iff h1
  have b := fits_iff h2
  unfold Builtin.Range.small Builtin.Range.rangeSize Builtin.Range.rangeFitsLong
  by_cases h : lo < hi
  · simp [h]; omega
  · simp [h]; omega
theorem range_size {lo hi : Int} : Builtin.Range.rangeSize lo hi 1 = ((hi - lo).toNat : Int) := by
  unfold Builtin.Range.rangeSize
  by_cases h : lo < hi
  · simp [h]; omega
  · simp [h]; omega

theorem snd_iter {p : PV} {ps : List PV} {v : Value} {E : Value → Shared → Prop} {Q : Value → Shared → Prop} (hh : A.handled = none) (hX : X.h = s.heap) (R : Rel c X σ) (hv : VR c X p v) (h : iterV p = some ps)
    (q : ∀ (I : Addr) (h' : Heap) (fp : List Addr) (P : Nat → Value → Prop) (S : Nat → Heap → Prop), X.h.get? I = none → (∃ o, h'.get? I = some o) → (∀ b o, X.h.get? b = some o → h'.get? b = some o) → Iter c A X I ps fp P S → S 0 h' → Q (.ref I) { s with heap := h' }) :
    wpAny (model c.prog c.w) A (pyIter v) Q E s := by
  have fresh : X.h.get? s.heap.objs.size = none := by rw [hX]; exact Heap.get?_none_of_le (Nat.le_refl _)
  have old : ∀ (o₁ : Obj) b o, X.h.get? b = some o → (s.heap.push o₁).get? b = some o := fun o₁ b o e => Heap.get?_push_of_some _ (hX ▸ e)
  have alive : ∀ (o₁ : Obj), o₁.isFreed = false → ∃ o, (s.heap.push o₁).get? s.heap.objs.size = some o := fun o₁ h => ⟨_, Heap.get?_push_size _ h⟩
  unfold iterV at h
  split at h
  · rename_i us
    cases h
    obtain ⟨a, vs, rfl, f, hl, _, hvs⟩ := hv
    have hl' := hl.isList
    rw [hX] at hl'
    have ne : a ≠ s.heap.objs.size := by obtain ⟨o, ho, _⟩ := hl'; exact Nat.ne_of_lt (Heap.lt_size ho)
    have W := Walks.list (prog := c.prog) (w := c.w) (A := A) hh s.heap.objs.size a ne vs.toArray
    rw [show vs.toArray.size = ps.length by simp [hvs.length]] at W
    refine wpAny_pyIter_list hl' (q _ _ _ _ _ fresh (alive _ rfl) (old _) ⟨W, fun b hb => ?_, fun i v e => ?_, fun i h z => by obtain ⟨⟨o, e, _⟩, _⟩ := z; exact ⟨o, e⟩, fun i s' tg v' Q' E' z q' => by obtain ⟨⟨o, e, e2, e3⟩, _⟩ := z; exact go_any e e2 e3 (by decide) q'⟩ (And.intro ⟨_, Heap.get?_push_size _ rfl, rfl, rfl⟩ (hl'.push _)))
    · simp at hb; rcases hb with rfl | rfl
      · exact .inl rfl
      · exact .inr f
    · exact hvs.at i v (by simpa using e)
  · rename_i us
    cases h
    obtain ⟨a, vs, rfl, f, hl, _, hvs⟩ := hv
    have hl' := hl
    rw [hX] at hl'
    have ne : a ≠ s.heap.objs.size := by obtain ⟨o, ho, _⟩ := hl'; exact Nat.ne_of_lt (Heap.lt_size ho)
    have W := Walks.tuple (prog := c.prog) (w := c.w) (A := A) hh s.heap.objs.size a ne vs.toArray
    rw [show vs.toArray.size = ps.length by simp [hvs.length]] at W
    refine wpAny_pyIter_tuple hl' (q _ _ _ _ _ fresh (alive _ rfl) (old _) ⟨W, fun b hb => ?_, fun i v e => ?_, fun i h z => by obtain ⟨⟨o, e, _⟩, _⟩ := z; exact ⟨o, e⟩, fun i s' tg v' Q' E' z q' => by obtain ⟨⟨o, e, e2, e3⟩, _⟩ := z; exact go_any e e2 e3 (by decide) q'⟩ (And.intro ⟨_, Heap.get?_push_size _ rfl, rfl, rfl⟩ (hl'.push _)))
    · simp at hb; rcases hb with rfl | rfl
      · exact .inl rfl
      · exact .inr f
    · exact hvs.at i v (by simpa using e)
  · rename_i lo hi
    cases h
    obtain ⟨a, t, u, k, rfl, f, hr, f1, f2⟩ := hv
    rw [hX] at hr
    have W := Walks.range (prog := c.prog) (w := c.w) (A := A) hh s.heap.objs.size lo 1 (hi - lo).toNat
    have W' : Walks c.prog c.w A s.heap.objs.size [s.heap.objs.size] [s.heap.objs.size] (rangeL lo hi).length (fun i v => i < (rangeL lo hi).length ∧ ∃ t, v = .int (lo + i * 1) t) (fun i h => IsRangeIter h s.heap.objs.size (lo + (i : Nat) * 1) (((hi - lo).toNat : Int) - (i : Nat)) 1) := by
      rw [rangeL_len]
      exact ⟨W.sub, W.frame, fun i s' Q E hi' st hQ => W.item i s' Q E hi' st fun v h' tk hp => hQ v h' tk ⟨hi', hp⟩, W.done, W.self⟩
    refine wpAny_pyIter_range hr (range_small f1 f2) (q _ _ _ _ _ fresh (alive _ rfl) (old _) ⟨W', fun b hb => ?_, fun i v e => ?_, fun i h z => ⟨_, z⟩, fun i s' tg v' Q' E' z q' => go_any z rfl rfl (by decide) q'⟩ ?_)
    · simp at hb; exact .inl hb
    · obtain ⟨e1, t, rfl⟩ := e
      exact ⟨_, rangeL_get e1, t, by rw [Int.mul_one]⟩
    · have e := Heap.get?_push_size (h := s.heap) (o := { cls := .type "range_iterator", data := .fields #[rawInt lo, rawInt (Builtin.Range.rangeSize lo hi 1), rawInt 1] }) rfl
      rw [range_size] at e ⊢
      show IsRangeIter _ _ _ _ _
      simpa [IsRangeIter, rawInt] using e
  · rename_i kvs
    cases h
    obtain ⟨a, us, rfl, f, ns, hl, _, hvs⟩ := hv
    rw [hX] at hl
    obtain ⟨ep, hd⟩ := hl.dictAt
    have ne : a ≠ s.heap.objs.size := Nat.ne_of_lt hd.lt_size
    have W := Walks.dictKeys (prog := c.prog) (w := c.w) (knd := intKind c.prog c.w) (A := A) hh s.heap.objs.size a ne us ep
    have el : us.length = (kvs.map fun p => PV.int p.1).length := by rw [List.length_map]; exact hvs.length
    have W' : Walks c.prog c.w A s.heap.objs.size [s.heap.objs.size, a] [s.heap.objs.size] (kvs.map fun p => PV.int p.1).length _ _ := el ▸ W
    refine wpAny_pyIter_dict (dct_ne ns) hd (q _ _ _ _ _ fresh (alive _ rfl) (old _) ⟨W', fun b hb => ?_, fun i v e => ?_, fun i h z => by obtain ⟨⟨o, e, _⟩, _⟩ := z; exact ⟨o, e⟩, fun i s' tg v' Q' E' z q' => by obtain ⟨⟨o, e, e2, e3⟩, _⟩ := z; exact go_any e e2 e3 (by decide) q'⟩ ?_)
    · simp at hb; rcases hb with rfl | rfl
      · exact .inl rfl
      · exact .inr f
    · obtain ⟨k, x, e1, e2⟩ := e
      obtain ⟨t, rfl⟩ := isInt_of e2
      have hk := hvs.keys
      have : (us.map (·.1))[i]? = some k := by simp [e1]
      rw [hk] at this
      refine ⟨.int k, ?_, t, rfl⟩
      rw [List.getElem?_map] at this ⊢
      cases e3 : kvs[i]? with
      | none => rw [e3] at this; cases this
      | some q => rw [e3] at this; cases this; rfl
    · refine ⟨⟨_, Heap.get?_push_size _ rfl, rfl, ?_⟩, hd.push _⟩
      simp [hvs.length]
  · cases h
end Mine
namespace Mine
open PySem PyProof.V PyProof.Rows
set_option autoImplicit false
set_option linter.unusedVariables false
variable {c : Cx} {X X' : Vw} {σ σ' : St} {A : Around} {s : Shared}

noncomputable def Gc.str : Gc → PySem.Str
  | .IGNORE_BASES => "IGNORE_BASES" | .IGNORE_LIGATURES => "IGNORE_LIGATURES" | .IGNORE_MARKS => "IGNORE_MARKS" | .USE_SET => "USE_SET" | .MARK => "MARK" | .BASE_ligature => "BASE_ligature"
  | .NO_CLASS => "NO_CLASS" | .BASE_gdef => "BASE_gdef" | .COMPONENT => "COMPONENT" | .KINDS_IN_INPUT => "KINDS_IN_INPUT"
noncomputable def Gc.all : List Gc := [.IGNORE_BASES, .IGNORE_LIGATURES, .IGNORE_MARKS, .USE_SET, .MARK, .BASE_ligature, .NO_CLASS, .BASE_gdef, .COMPONENT, .KINDS_IN_INPUT]
noncomputable def Bi.str : Bi → PySem.Str
  | .len => "len" | .abs => "abs" | .min => "min" | .max => "max" | .sum => "sum" | .any => "any" | .dict => "dict" | .list => "list" | .tuple => "tuple" | .int => "int" | .range => "range"
noncomputable def Fn.str : Fn → Option PySem.Str
  | .init _ => none | .next_lig => none | .class_of => none | .glyph_class => none
  | .law_classes => some "_law_classes" | .law_draw => some "_law_draw" | .law_row => some "_law_row" | .law_sets => some "_law_sets" | .law_places => some "_law_places" | .law_part => some "_law_part"
  | .law_joined => some "_law_joined" | .law_due => some "_law_due" | .law_infos => some "_law_infos" | .law => some "law" | .set_cluster => some "set_cluster" | .widened => some "widened" | .merge => some "merge"
  | .attach_wanted => some "attach_wanted" | .class_bit => some "class_bit" | .is_ignored => some "is_ignored" | .passes => some "passes" | .glyph_tests => some "glyph_tests" | .fits => some "fits"
  | .is_borne => some "is_borne" | .found_at => some "found_at" | .input_at => some "input_at" | .is_piece => some "is_piece" | .hold_together => some "hold_together" | .part_count => some "part_count"
  | .way_of => some "way_of" | .tie => some "tie" | .tie_behind => some "tie_behind" | .tie_all => some "tie_all" | .join => some "join" | .apply_ligature => some "apply_ligature"

noncomputable def start (c : Cx) : Vw := ⟨fun _ => (0, 0), fun b => ∃ o, c.h₀.get? b = some o, 0, c.h₀⟩
theorem start_le (R : Rel c X σ) : Le (start c) X := ⟨Nat.zero_le _, fun i hi => absurd hi (Nat.not_lt_zero _), fun b ⟨o, e⟩ => (R.base b o e).1, fun b o _ e => (R.base b o e).2⟩

structure NameFacts (c : Cx) (mg mb : PySem.Str → Option Value) : Prop where
  g : c.h₀.Ns mainGlobals mg
  b : c.h₀.Ns builtinsNs mb
  fn : ∀ f x, f.str = some x → mg x = some (.ref (c.fA f))
  cl : ∀ k : Cl, mg k.str = some (.ref (c.cA k))
  bi : ∀ b : Bi, mg b.str = none ∧ mb b.str = some b.val
  gc : ∀ g : Gc, ∃ v, mg g.str = some v ∧ VR c (start c) (gcVal g) v
structure Facts (c : Cx) : Prop where
  cls : ∀ k, ClsFacts c.h₀ (c.cA k) c.fA k
  sys : ∃ o, c.h₀.get? cStatics = some o
  lim : c.h₀.NoLimit
  names : ∃ mg mb, NameFacts c mg mb
  fnObj : ∀ f, ∃ o fd, c.h₀.get? (c.fA f) = some o ∧ o.cls = .type "function" ∧ o.data = .func fd

abbrev Names := List (PySem.Str × NameKind)
abbrev Slots := List (PySem.Str × Nat)
noncomputable def isVarKind : Option NameKind → Bool
  | some .local => true | some .cell => true | some .free => true | _ => false
noncomputable def isGlobKind : Option NameKind → Bool
  | some .globalImplicit => true | _ => false
noncomputable def isCellKind : Option NameKind → Bool
  | some .cell => true | _ => false
noncomputable def isLocalKind : Option NameKind → Bool
  | some .local => true | _ => false
noncomputable def chkVar (ns : Names) (sm : Slots) (x : PySem.Str) (k : Nat) : Bool := isVarKind (ns.lookup x) && (sm.lookup x == some k) && !(x == ("__debug__" : PySem.Str)) && !(x == ("__classdict__" : PySem.Str))
noncomputable def chkGlob (ns : Names) (x y : PySem.Str) : Bool := isGlobKind (ns.lookup x) && (x == y) && !(x == ("__debug__" : PySem.Str))
noncomputable def isStar (e : PySem.Expr) : Bool := e.ctorIdx == 22
noncomputable def isSet (e : PySem.Expr) : Bool := e.ctorIdx == 7
noncomputable def plainT (e : PySem.Expr) : Bool := !(e.ctorIdx == 0 || (e.ctorIdx == 3 || (e.ctorIdx == 5 || e.ctorIdx == 15)))
noncomputable def noStars (es : List PySem.Expr) : Bool := es.all fun e => !isStar e
noncomputable def intIs (v : PV) (k : Int) : Bool := match v with | .int j => j == k | _ => false
theorem and_e {a b : Bool} {R : Prop} (h : (a && b) = true) (q : a = true → b = true → R) : R := by
  cases a with
  | true => exact q rfl h
  | false => cases h
theorem not_e {a : Bool} (h : (!a) = true) : a = false := by
  cases a with
  | true => cases h
  | false => rfl
theorem or_e {a b : Bool} {R : Prop} (h : (a || b) = true) (q1 : a = true → R) (q2 : b = true → R) : R := by
  cases a with
  | true => exact q1 rfl
  | false => exact q2 h
section
variable {α β : Type}
noncomputable def all2 (f : α → β → Bool) : List α → List β → Bool
  | [], bs => bs.isEmpty
  | a :: as, bs => match bs with
    | [] => false
    | b :: bs => f a b && all2 f as bs
@[elab_as_elim] theorem all2_nil {P : List β → Prop} {f : α → β → Bool} {bs : List β} (h : all2 f [] bs = true) (q : P []) : P bs := by
  cases bs with
  | nil => exact q
  | cons => cases h
@[elab_as_elim] theorem all2_cons {P : List β → Prop} {f : α → β → Bool} {a : α} {as : List α} {bs : List β} (h : all2 f (a :: as) bs = true) (q : ∀ b bs, f a b = true → all2 f as bs = true → P (b :: bs)) : P bs := by
  cases bs with
  | nil => cases h
  | cons b bs => exact and_e h (q b bs)
noncomputable def l1 (xs : List α) (k : α → Bool) : Bool := match xs with | [a] => k a | _ => false
@[elab_as_elim] theorem l1_e {P : List α → Prop} {xs : List α} {k : α → Bool} (h : l1 xs k = true) (q : ∀ a, k a = true → P [a]) : P xs := by
  rcases xs with _ | ⟨a, _ | _⟩
  · cases h
  · exact q a h
  · cases h
noncomputable def l2 (xs : List α) (k : α → α → Bool) : Bool := match xs with | [a, b] => k a b | _ => false
@[elab_as_elim] theorem l2_e {P : List α → Prop} {xs : List α} {k : α → α → Bool} (h : l2 xs k = true) (q : ∀ a b, k a b = true → P [a, b]) : P xs := by
  rcases xs with _ | ⟨a, _ | ⟨b, _ | _⟩⟩
  · cases h
  · cases h
  · exact q a b h
  · cases h
@[elab_as_elim] theorem empty_e {P : List α → Prop} {xs : List α} (h : xs.isEmpty = true) (q : P []) : P xs := by
  cases xs with
  | nil => exact q
  | cons => cases h
noncomputable def onSome (o : Option α) (k : α → Bool) : Bool := match o with | some a => k a | none => false
theorem onSome_e {R : Prop} {o : Option α} {k : α → Bool} (h : onSome o k = true) (q : ∀ a, o = some a → k a = true → R) : R := by
  cases o with
  | none => cases h
  | some a => exact q a rfl h
noncomputable def oNone (o : Option α) : Bool := match o with | none => true | some _ => false
@[elab_as_elim] theorem oNone_e {P : Option α → Prop} {o : Option α} (h : oNone o = true) (q : P none) : P o := by
  cases o with
  | none => exact q
  | some _ => cases h
end
section
variable {e : PySem.Expr} {P : PySem.Expr → Prop} {R : Prop}
noncomputable def exAt (i : Nat) (e : PySem.Expr) (k : e.ctorIdx = i → Bool) : Bool := if h : e.ctorIdx = i then k h else false
theorem exAt_e {i : Nat} {k : e.ctorIdx = i → Bool} (h : exAt i e k = true) (q : ∀ h, k h = true → R) : R := by
  unfold exAt at h
  by_cases hi : e.ctorIdx = i
  · rw [dif_pos hi] at h; exact q hi h
  · rw [dif_neg hi] at h; cases h
noncomputable def exBool (e : PySem.Expr) (k : BoolOp → List PySem.Expr → Bool) : Bool := exAt 0 e fun h => PySem.Expr.BoolOp.elim (motive_1 := fun _ => Bool) e h fun o es _ => k o es
@[elab_as_elim] theorem exBool_e {k : BoolOp → List PySem.Expr → Bool} (h : exBool e k = true) (q : ∀ o es pos, k o es = true → P (.BoolOp o es pos)) : P e :=
  exAt_e h fun hi => PySem.Expr.BoolOp.elim (motive_1 := fun e => ∀ hi : e.ctorIdx = 0, PySem.Expr.BoolOp.elim (motive_1 := fun _ => Bool) e hi (fun o es _ => k o es) = true → P e) e hi (fun o es pos _ => q o es pos) hi
noncomputable def exBin (e : PySem.Expr) (k : PySem.Expr → Operator → PySem.Expr → Bool) : Bool := exAt 2 e fun h => PySem.Expr.BinOp.elim (motive_1 := fun _ => Bool) e h fun l o r _ => k l o r
@[elab_as_elim] theorem exBin_e {k : PySem.Expr → Operator → PySem.Expr → Bool} (h : exBin e k = true) (q : ∀ l o r pos, k l o r = true → P (.BinOp l o r pos)) : P e :=
  exAt_e h fun hi => PySem.Expr.BinOp.elim (motive_1 := fun e => ∀ hi : e.ctorIdx = 2, PySem.Expr.BinOp.elim (motive_1 := fun _ => Bool) e hi (fun l o r _ => k l o r) = true → P e) e hi (fun l o r pos _ => q l o r pos) hi
noncomputable def exUn (e : PySem.Expr) (k : UnaryOp → PySem.Expr → Bool) : Bool := exAt 3 e fun h => PySem.Expr.UnaryOp.elim (motive_1 := fun _ => Bool) e h fun o x _ => k o x
@[elab_as_elim] theorem exUn_e {k : UnaryOp → PySem.Expr → Bool} (h : exUn e k = true) (q : ∀ o x pos, k o x = true → P (.UnaryOp o x pos)) : P e :=
  exAt_e h fun hi => PySem.Expr.UnaryOp.elim (motive_1 := fun e => ∀ hi : e.ctorIdx = 3, PySem.Expr.UnaryOp.elim (motive_1 := fun _ => Bool) e hi (fun o x _ => k o x) = true → P e) e hi (fun o x pos _ => q o x pos) hi
noncomputable def exIf (e : PySem.Expr) (k : PySem.Expr → PySem.Expr → PySem.Expr → Bool) : Bool := exAt 5 e fun h => PySem.Expr.IfExp.elim (motive_1 := fun _ => Bool) e h fun t x y _ => k t x y
@[elab_as_elim] theorem exIf_e {k : PySem.Expr → PySem.Expr → PySem.Expr → Bool} (h : exIf e k = true) (q : ∀ t x y pos, k t x y = true → P (.IfExp t x y pos)) : P e :=
  exAt_e h fun hi => PySem.Expr.IfExp.elim (motive_1 := fun e => ∀ hi : e.ctorIdx = 5, PySem.Expr.IfExp.elim (motive_1 := fun _ => Bool) e hi (fun t x y _ => k t x y) = true → P e) e hi (fun t x y pos _ => q t x y pos) hi
noncomputable def exDict (e : PySem.Expr) (k : List (Option PySem.Expr) → List PySem.Expr → Bool) : Bool := exAt 6 e fun h => PySem.Expr.Dict.elim (motive_1 := fun _ => Bool) e h fun ks es _ => k ks es
@[elab_as_elim] theorem exDict_e {k : List (Option PySem.Expr) → List PySem.Expr → Bool} (h : exDict e k = true) (q : ∀ ks es pos, k ks es = true → P (.Dict ks es pos)) : P e :=
  exAt_e h fun hi => PySem.Expr.Dict.elim (motive_1 := fun e => ∀ hi : e.ctorIdx = 6, PySem.Expr.Dict.elim (motive_1 := fun _ => Bool) e hi (fun ks es _ => k ks es) = true → P e) e hi (fun ks es pos _ => q ks es pos) hi
noncomputable def exComp (e : PySem.Expr) (k : PySem.Expr → List Comprehension → Scope → Bool) : Bool := exAt 8 e fun h => PySem.Expr.ListComp.elim (motive_1 := fun _ => Bool) e h fun x gs sc _ => k x gs sc
@[elab_as_elim] theorem exComp_e {k : PySem.Expr → List Comprehension → Scope → Bool} (h : exComp e k = true) (q : ∀ x gs sc pos, k x gs sc = true → P (.ListComp x gs sc pos)) : P e :=
  exAt_e h fun hi => PySem.Expr.ListComp.elim (motive_1 := fun e => ∀ hi : e.ctorIdx = 8, PySem.Expr.ListComp.elim (motive_1 := fun _ => Bool) e hi (fun x gs sc _ => k x gs sc) = true → P e) e hi (fun x gs sc pos _ => q x gs sc pos) hi
noncomputable def exCmp (e : PySem.Expr) (k : PySem.Expr → List CmpOp → List PySem.Expr → Bool) : Bool := exAt 15 e fun h => PySem.Expr.Compare.elim (motive_1 := fun _ => Bool) e h fun l os rs _ => k l os rs
@[elab_as_elim] theorem exCmp_e {k : PySem.Expr → List CmpOp → List PySem.Expr → Bool} (h : exCmp e k = true) (q : ∀ l os rs pos, k l os rs = true → P (.Compare l os rs pos)) : P e :=
  exAt_e h fun hi => PySem.Expr.Compare.elim (motive_1 := fun e => ∀ hi : e.ctorIdx = 15, PySem.Expr.Compare.elim (motive_1 := fun _ => Bool) e hi (fun l os rs _ => k l os rs) = true → P e) e hi (fun l os rs pos _ => q l os rs pos) hi
noncomputable def exCall (e : PySem.Expr) (k : PySem.Expr → List PySem.Expr → List Keyword → Pos → Bool) : Bool := exAt 16 e fun h => PySem.Expr.Call.elim (motive_1 := fun _ => Bool) e h fun f es kw pos => k f es kw pos
@[elab_as_elim] theorem exCall_e {k : PySem.Expr → List PySem.Expr → List Keyword → Pos → Bool} (h : exCall e k = true) (q : ∀ f es kw pos, k f es kw pos = true → P (.Call f es kw pos)) : P e :=
  exAt_e h fun hi => PySem.Expr.Call.elim (motive_1 := fun e => ∀ hi : e.ctorIdx = 16, PySem.Expr.Call.elim (motive_1 := fun _ => Bool) e hi (fun f es kw pos => k f es kw pos) = true → P e) e hi (fun f es kw pos _ => q f es kw pos) hi
noncomputable def exConst (e : PySem.Expr) (k : Const → Bool) : Bool := exAt 19 e fun h => PySem.Expr.Constant.elim (motive_1 := fun _ => Bool) e h fun x _ _ => k x
@[elab_as_elim] theorem exConst_e {k : Const → Bool} (h : exConst e k = true) (q : ∀ x kd pos, k x = true → P (.Constant x kd pos)) : P e :=
  exAt_e h fun hi => PySem.Expr.Constant.elim (motive_1 := fun e => ∀ hi : e.ctorIdx = 19, PySem.Expr.Constant.elim (motive_1 := fun _ => Bool) e hi (fun x _ _ => k x) = true → P e) e hi (fun x kd pos _ => q x kd pos) hi
noncomputable def exAttr (e : PySem.Expr) (k : PySem.Expr → PySem.Str → Pos → Bool) : Bool := exAt 20 e fun h => PySem.Expr.Attribute.elim (motive_1 := fun _ => Bool) e h fun v x pos => k v x pos
@[elab_as_elim] theorem exAttr_e {k : PySem.Expr → PySem.Str → Pos → Bool} (h : exAttr e k = true) (q : ∀ v x pos, k v x pos = true → P (.Attribute v x pos)) : P e :=
  exAt_e h fun hi => PySem.Expr.Attribute.elim (motive_1 := fun e => ∀ hi : e.ctorIdx = 20, PySem.Expr.Attribute.elim (motive_1 := fun _ => Bool) e hi (fun v x pos => k v x pos) = true → P e) e hi (fun v x pos _ => q v x pos) hi
noncomputable def exSub (e : PySem.Expr) (k : PySem.Expr → PySem.Expr → Bool) : Bool := exAt 21 e fun h => PySem.Expr.Subscript.elim (motive_1 := fun _ => Bool) e h fun v j _ => k v j
@[elab_as_elim] theorem exSub_e {k : PySem.Expr → PySem.Expr → Bool} (h : exSub e k = true) (q : ∀ v j pos, k v j = true → P (.Subscript v j pos)) : P e :=
  exAt_e h fun hi => PySem.Expr.Subscript.elim (motive_1 := fun e => ∀ hi : e.ctorIdx = 21, PySem.Expr.Subscript.elim (motive_1 := fun _ => Bool) e hi (fun v j _ => k v j) = true → P e) e hi (fun v j pos _ => q v j pos) hi
noncomputable def exName (e : PySem.Expr) (k : PySem.Str → Bool) : Bool := exAt 23 e fun h => PySem.Expr.Name.elim (motive_1 := fun _ => Bool) e h fun x _ => k x
@[elab_as_elim] theorem exName_e {k : PySem.Str → Bool} (h : exName e k = true) (q : ∀ x pos, k x = true → P (.Name x pos)) : P e :=
  exAt_e h fun hi => PySem.Expr.Name.elim (motive_1 := fun e => ∀ hi : e.ctorIdx = 23, PySem.Expr.Name.elim (motive_1 := fun _ => Bool) e hi (fun x _ => k x) = true → P e) e hi (fun x pos _ => q x pos) hi
noncomputable def exList (e : PySem.Expr) (k : List PySem.Expr → Bool) : Bool := exAt 24 e fun h => PySem.Expr.List.elim (motive_1 := fun _ => Bool) e h fun es _ => k es
@[elab_as_elim] theorem exList_e {k : List PySem.Expr → Bool} (h : exList e k = true) (q : ∀ es pos, k es = true → P (.List es pos)) : P e :=
  exAt_e h fun hi => PySem.Expr.List.elim (motive_1 := fun e => ∀ hi : e.ctorIdx = 24, PySem.Expr.List.elim (motive_1 := fun _ => Bool) e hi (fun es _ => k es) = true → P e) e hi (fun es pos _ => q es pos) hi
noncomputable def exTup (e : PySem.Expr) (k : List PySem.Expr → Bool) : Bool := exAt 25 e fun h => PySem.Expr.Tuple.elim (motive_1 := fun _ => Bool) e h fun es _ _ => k es
@[elab_as_elim] theorem exTup_e {k : List PySem.Expr → Bool} (h : exTup e k = true) (q : ∀ es kd pos, k es = true → P (.Tuple es kd pos)) : P e :=
  exAt_e h fun hi => PySem.Expr.Tuple.elim (motive_1 := fun e => ∀ hi : e.ctorIdx = 25, PySem.Expr.Tuple.elim (motive_1 := fun _ => Bool) e hi (fun es _ _ => k es) = true → P e) e hi (fun es kd pos _ => q es kd pos) hi
noncomputable def exSlice (e : PySem.Expr) (k : Option PySem.Expr → Option PySem.Expr → Option PySem.Expr → Bool) : Bool := exAt 26 e fun h => PySem.Expr.Slice.elim (motive_1 := fun _ => Bool) e h fun l u st _ => k l u st
@[elab_as_elim] theorem exSlice_e {k : Option PySem.Expr → Option PySem.Expr → Option PySem.Expr → Bool} (h : exSlice e k = true) (q : ∀ l u st pos, k l u st = true → P (.Slice l u st pos)) : P e :=
  exAt_e h fun hi => PySem.Expr.Slice.elim (motive_1 := fun e => ∀ hi : e.ctorIdx = 26, PySem.Expr.Slice.elim (motive_1 := fun _ => Bool) e hi (fun l u st _ => k l u st) = true → P e) e hi (fun l u st pos _ => q l u st pos) hi
noncomputable def attrOk (e : PySem.Expr) : Bool := !(e.ctorIdx == 16) || exCall e fun f es _ _ => !es.isEmpty || exName f fun x => x != ("super" : PySem.Str)
noncomputable def exC (e : PySem.Expr) (c : Const) : Bool := exConst e fun x => decide (x = c)
@[elab_as_elim] theorem exC_e {c : Const} (h : exC e c = true) (q : ∀ kd pos, P (.Constant c kd pos)) : P e :=
  exConst_e h fun x kd pos h => of_decide_eq_true h ▸ q kd pos
end
noncomputable def exGen (gs : List Comprehension) (k : PySem.Str → PySem.Expr → List PySem.Expr → Bool) : Bool := l1 gs fun g => match g with | ⟨t, it, ifs, a⟩ => exName t fun x => decide (a = 0) && k x it ifs
@[elab_as_elim] theorem exGen_e {P : List Comprehension → Prop} {gs : List Comprehension} {k : PySem.Str → PySem.Expr → List PySem.Expr → Bool} (h : exGen gs k = true) (q : ∀ x px it ifs, k x it ifs = true → P [⟨.Name x px, it, ifs, 0⟩]) : P gs := by
  refine l1_e h fun g h => ?_
  obtain ⟨t, it, ifs, a⟩ := g
  revert h
  refine fun h => exName_e h fun x px h => and_e h fun h1 h2 => ?_
  rw [of_decide_eq_true h1]
  exact q x px it ifs h2
noncomputable def isNoneE (p : PE) : Bool := match p with | .none => true | _ => false
@[elab_as_elim] theorem isNoneE_e {P : PE → Prop} {p : PE} (h : isNoneE p = true) (q : P .none) : P p := by
  cases p with
  | none => exact q
  | _ => cases h
noncomputable def chkOpt (f : PySem.Expr → PE → Bool) (o : Option PySem.Expr) (p : PE) : Bool := match o with
  | none => isNoneE p
  | some e => f e p
noncomputable def chkKey (ns : Names) (o : Option PySem.Expr) (k : Int) : Bool := match o with
  | none => false
  | some e => exC e (.int k) || exName e fun x => Gc.all.any fun g => chkGlob ns x g.str && intIs (gcVal g) k
noncomputable def relNs (ns : Names) (names : Names) : Names := names.map fun (n, k) => if (k == .free && ns.lookup n == some .cell) then (n, .cell) else (n, k)
noncomputable def chkScope (ns : Names) (sm : Slots) (scope : Scope) (x : PySem.Str) (slot : Nat) : Bool :=
  scope.kind == .function &&
  scope.names.all (fun p => match p.2 with
    | .local => (p.1 == x || p.1 == (".0" : PySem.Str)) && isLocalKind (scope.names.lookup p.1)
    | .free => isCellKind (ns.lookup p.1) && !(p.1 == x)
    | .globalImplicit => true
    | _ => false) &&
  isLocalKind (scope.names.lookup x) && !(x == (".0" : PySem.Str)) && (sm.lookup (".0" : PySem.Str)).isNone && sm.all (fun p => !(p.2 == slot))

section
variable (f : Names → Slots → PySem.Expr → PE → Bool) (ns : Names) (sm : Slots) (e : PySem.Expr)
noncomputable def chkCall (es : List PySem.Expr) (ps : List PE) : Bool := noStars es && all2 (f ns sm) es ps
noncomputable def chkNamed (y : PySem.Str) (ps : List PE) : Bool := exCall e fun g es kw _ => kw.isEmpty && exName g fun x => chkGlob ns x y && chkCall f ns sm es ps
noncomputable def chkCompr (elt : PE) (k : Nat) (it : PE) (t : Names → Slots → List PySem.Expr → Bool) : Bool := exComp e fun e1 gs sc => exGen gs fun x e2 ifs => !isSet e2 && (chkScope ns sm sc x k && (f ns sm e2 it && (t (relNs ns sc.names) ((x, k) :: sm) ifs && f (relNs ns sc.names) ((x, k) :: sm) e1 elt)))
noncomputable def chkStep (p : PE) : Bool := match p with
  | .none => exC e .none
  | .bool b => exC e (.bool b)
  | .int i => exC e (.int i)
  | .neg i => exUn e fun o x => decide (o = .USub) && exC x (.int i)
  | .str k => exC e (.str k.str)
  | .var k => exName e fun x => chkVar ns sm x k
  | .gc g => exName e fun x => chkGlob ns x g.str
  | .bin op a b => exBin e fun l o r => decide (o = op.op) && (f ns sm l a && f ns sm r b)
  | .not a => exUn e fun o x => decide (o = .Not) && f ns sm x a
  | .band ps => exBool e fun o es => decide (o = .And) && all2 (f ns sm) es ps
  | .bor ps => exBool e fun o es => decide (o = .Or) && all2 (f ns sm) es ps
  | .ite c a b => exIf e fun t x y => f ns sm t c && (f ns sm x a && f ns sm y b)
  | .cmp op a b => exCmp e fun l os rs => l1 os fun o => l1 rs fun r => decide (o = op.op) && (!isSet r && (f ns sm l a && f ns sm r b))
  | .cmp2 op1 op2 a b c => exCmp e fun l os rs => l2 os fun o1 o2 => l2 rs fun r1 r2 => decide (o1 = op1.op) && (decide (o2 = op2.op) && (!isSet r1 && (!isSet r2 && (f ns sm l a && (f ns sm r1 b && f ns sm r2 c)))))
  | .tup ps => exTup e fun es => chkCall f ns sm es ps
  | .list ps => exList e fun es => chkCall f ns sm es ps
  | .mlist ps => exList e fun es => chkCall f ns sm es ps
  | .dict ks ps => exDict e fun keys es => all2 (chkKey ns) keys ks && (all2 (f ns sm) es ps && (decide (es.length = keys.length) && decide (keys.length ≤ 15)))
  | .mdict => exDict e fun keys es => keys.isEmpty && es.isEmpty
  | .sub a i => exSub e fun v j => !isSlice j && (f ns sm v a && f ns sm j i)
  | .slice a lo hi => exSub e fun v j => exSlice j fun l h st => oNone st && (f ns sm v a && (chkOpt (f ns sm) l lo && chkOpt (f ns sm) h hi))
  | .attr a n => exAttr e fun v x _ => decide (x = n.str) && (attrOk v && f ns sm v a)
  | .callF g ps => onSome g.str fun y => chkNamed f ns sm e y ps
  | .callC k ps => chkNamed f ns sm e k.str ps
  | .callB b ps => chkNamed f ns sm e b.str ps
  | .mlistOf a => chkNamed f ns sm e Bi.list.str [a]
  | .meth a m ps => exCall e fun g es kw pos => kw.isEmpty && exAttr g fun o x apos => decide (x = m.str) && (decide (apos.endLine = pos.line) && (attrOk o && (decide (es.length < 30) && (f ns sm o a && chkCall f ns sm es ps))))
  | .comp elt k it => chkCompr f ns sm e elt k it fun _ _ ifs => ifs.isEmpty
  | .compIf elt k it c => chkCompr f ns sm e elt k it fun ns' sm' ifs => l1 ifs fun e3 => f ns' sm' e3 c
  | .frz _ a => plainT e && f ns sm e a
  | .bad => true
end
noncomputable def chkE : Nat → Names → Slots → PySem.Expr → PE → Bool
  | 0 => fun _ _ _ _ => false
  | n + 1 => chkStep (chkE n)
end Mine
namespace Mine
open PySem PyProof.V PyProof.Rows
set_option autoImplicit false
set_option linter.unusedVariables false
variable {c : Cx} {X X' : Vw} {σ σ' : St} {A : Around} {s : Shared}

variable {m : Now c} {Q : PV → St → Prop} {ps : List PV} {vs : List Value} {k : Nat}
theorem snd_len (hv : VRs c m.X ps vs) (h : B.W (B.M.onOne ps B.lenW) m.σ Q) : Wp A (call Bi.len.val vs) m Q := by
  revert hv
  refine B.M.onOne_e h fun p h hv => hv.one_e fun v hv => ?_
  cases p with
  | lst ps => exact hv.lst_e fun a us f hl hn hvs => ofP (b_len_list m.hX m.R (m.hX ▸ hl).isList hvs hn) h
  | tup ps => exact hv.tup_e fun a us f hl hn hvs => ofP (b_len_tup m.hX m.R (m.hX ▸ hl) hvs hn) h
  | ref i =>
    refine hv.ref_e (B.M.There_e h fun o lv h => ?_)
    revert lv
    refine B.M.onList_e h fun ps h lv => ?_
    exact (m.R.live i _ lv).2.list_e fun e hn vs n hl hvs => e ▸ ofP (b_len_list m.hX m.R (m.hX ▸ PySem.IsL.isList (n := n) hl) hvs hn) h
  | _ => exact h.elim
theorem snd_min (hh : A.handled = none) (hv : VRs c m.X ps vs) {r : PV} (e : minV ps = some r) (q : Q r m.σ) : Wp A (call Bi.min.val vs) m Q := by
  revert q
  rcases ps with _ | ⟨p, _ | ⟨p2, _ | _⟩⟩
  · exact no e
  · revert hv
    refine onLst_e e fun us e hv => bind_e e fun ns e1 e => bind_e e fun x e2 e => some_e e fun q => ?_
    exact hv.one_e fun v hv => hv.lst_e fun a us f hl hn hvs => ofP (b_minl hh m.hX m.R (m.hX ▸ hl).isList hvs e1 e2) q
  · revert hv
    refine onInt_e e fun x e => ?_
    refine onInt_e e fun y e hv => some_e e fun q => ?_
    exact hv.two_e fun v u h1 h2 => h1.int_e fun t => h2.int_e fun t2 => ofP (b_min2 hh m.hX m.R) q
  · exact no e
theorem snd_range (hv : VRs c m.X ps vs) {r : PV} (e : rangeV ps = some r) (q : Q r m.σ) : Wp A (call Bi.range.val vs) m Q := by
  revert q
  rcases ps with _ | ⟨p, _ | ⟨p2, _ | _⟩⟩
  · exact no e
  · revert hv
    refine onInt_e e fun x e hv => onTrue_e e fun hf e => some_e e fun q => ?_
    exact hv.one_e fun v h1 => h1.int_e fun t => ofP (b_range1 m.hX m.R hf) q
  · revert hv
    refine onInt_e e fun x e => ?_
    refine onInt_e e fun y e hv => onTrue_e e fun hf e => some_e e fun q => ?_
    exact hv.two_e fun v u h1 h2 => h1.int_e fun t => h2.int_e fun t2 => and_e hf fun f1 f2 => ofP (b_range2 m.hX m.R f1 f2) q
  · exact no e
theorem snd_todict (hS : ∃ o, c.h₀.get? cStatics = some o) (hh : A.handled = none) {p : PV} {v : Value} (hv : VR c m.X p v) {r : PV} (e : dictV p = some r) (q : Q r m.σ) : Wp A (call Bi.dict.val [v]) m Q := by
  revert q
  cases p with
  | dct kvs => exact some_e e fun q => hv.dct_e fun a us f ns hl hn hvs => ofP (b_dict m.hX m.R ns hS (m.hX ▸ hl) hvs hn) q
  | lst us => exact bind_e e fun ns e1 e => some_e e fun q => hv.lst_e fun a us f hl hn hvs => ofP (b_dict_pairs hh m.hX m.R hS (m.hX ▸ hl) hvs hn e1) q
  | _ => exact no e
theorem on_list {b : Bi} {k : List PV → Option PV} {r : PV} (hv : VRs c m.X ps vs) (e : on1 ps (fun v => onLst v k) = some r) (q : ∀ us a ws, k us = some r → m.s.heap.PlainList a ws.toArray → us.length ≤ 2 * LIM → VRs c m.X us ws → Wp A (call b.val [.ref a]) m Q) : Wp A (call b.val vs) m Q := by
  revert hv
  refine on1_e e fun p e => ?_
  refine onLst_e e fun us e hv => ?_
  exact hv.one_e fun v hv => hv.lst_e fun a ws f hl hn hvs => q us a ws e (m.hX ▸ hl) hn hvs
theorem snd_builtin {b : Bi} (hS : ∃ o, c.h₀.get? cStatics = some o) (hA : Room A k) (hv : VRs c m.X ps vs) (h : B.W (B.builtinM b ps) m.σ Q) : Wp A (call b.val vs) m Q := by
  have hh := hA.handled
  cases b with
  | len => exact snd_len hv h
  | abs =>
    refine B.M.Got_e h fun r e => ?_
    revert hv
    refine on1_e e fun p e => ?_
    refine onInt_e e fun i e hv => some_e e fun q => ?_
    exact hv.one_e fun v h1 => h1.int_e fun t => ofP (b_abs m.hX m.R) q
  | min => exact B.M.Got_e h fun r e q => snd_min hh hv e q
  | max =>
    refine B.M.Got_e h fun r e => ?_
    revert hv
    refine on2_e e fun p p2 e => ?_
    refine onInt_e e fun x e => ?_
    refine onInt_e e fun y e hv => some_e e fun q => ?_
    exact hv.two_e fun v u h1 h2 => h1.int_e fun t => h2.int_e fun t2 => ofP (b_max2 hh m.hX m.R) q
  | sum => exact B.M.Got_e h fun r e => fun q => on_list hv e fun us a ws e hl hn hvs => bind_e e fun ns e1 e => ofP (b_suml hh m.hX m.R hl.isList hvs e1) (Option.some.inj e ▸ q)
  | any => exact B.M.Got_e h fun r e => fun q => on_list hv e fun us a ws e hl hn hvs => bind_e e fun ns e1 e => ofP (b_anyl hh m.hX m.R hl.isList hvs e1) (Option.some.inj e ▸ q)
  | dict =>
    refine B.M.Got_e h fun r e q => ?_
    revert hv
    refine on1_e e fun p e hv => ?_
    exact hv.one_e fun v hv => snd_todict hS hh hv e q
  | list => exact B.M.Got_e h fun r e => fun q => on_list hv e fun us a ws e hl hn hvs => ofP (b_list m.hX m.R hl.isList hvs hn) (Option.some.inj e ▸ q)
  | tuple => exact B.M.Got_e h fun r e => fun q => on_list hv e fun us a ws e hl hn hvs => ofP (b_tuple m.hX m.R hl.isList hvs hn) (Option.some.inj e ▸ q)
  | int =>
    refine B.M.Got_e h fun r e => ?_
    revert hv
    refine on1_e e fun p e => ?_
    refine onInt_e e fun i e hv => some_e e fun q => ?_
    exact hv.one_e fun v h1 => h1.int_e fun t => ofP (b_int m.hX m.R) q
  | range => exact B.M.Got_e h fun r e q => snd_range hv e q
end Mine
namespace Mine
open PySem PyProof.V PyProof.Rows
set_option autoImplicit false
set_option linter.unusedVariables false
variable {c : Cx} {X X' : Vw} {σ σ' σ₁ : St} {A : Around} {s s₁ : Shared}

structure Here (c : Cx) (k : Nat) (A : Around) (m : Now c) (ns : Names) (sm : Slots) (env : PySem.Env) (ρ : Mine.Env) : Prop where
  ok : EnvOk c m.X m.σ sm env ρ
  names : env.scope.names = ns
  room : Room A (k + 1)
section
variable {k : Nat} {m n : Now c} {ns : Names} {sm : Slots} {env : PySem.Env} {ρ : Mine.Env}
theorem Here.to (H : Here c k A m ns sm env ρ) (t : To none' m n) : Here c k A n ns sm env ρ := ⟨H.ok.next t.nx, H.names, H.room⟩
theorem Here.kindOf (H : Here c k A m ns sm env ρ) (x : PySem.Str) : env.kindOf x = ns.lookup x := H.names ▸ rfl
noncomputable def SE1 (c : Cx) (C : Fn → List PV → B.M PV) (k : Nat) (ns : Names) (sm : Slots) (e : PySem.Expr) (p : PE) : Prop :=
  ∀ (m : Now c) (A : Around) (env : PySem.Env) (ρ : Mine.Env) (Q : PV → St → Prop), Here c k A m ns sm env ρ → B.W (B.evalE C p ρ) m.σ Q → Wp A (eval e env) m Q

theorem se_var {C : Fn → List PV → B.M PV} {x : PySem.Str} {j : Nat} {pos : Pos} (hc : chkVar ns sm x j = true) : SE1 c C k ns sm (.Name x pos) (.var j) := by
  intro m A env ρ Q H h
  refine B.M.Got_e h fun p hp q => ?_
  refine and_e hc fun hc h4 => and_e hc fun hc h3 => and_e hc fun h1 h2 => ?_
  have h2 := eq_of_beq h2
  refine wpAny_Name ?_ (not_e h3)
  have hk := H.kindOf x ▸ h1
  have e := H.ok
  cases hkk : env.kindOf x with
  | none => rw [hkk] at hk; cases hk
  | some kd =>
    rw [hkk] at hk
    cases kd with
    | «local» =>
      obtain ⟨mm, hn, hv⟩ := e.loc
      obtain ⟨v, hm, r⟩ := hv x j p h2 hp hkk
      exact wpAny_loadName_local e.kind hkk (m.hX ▸ hn) hm (Ends.ret r q)
    | cell =>
      obtain ⟨a, u, g, hc, _, _, hv⟩ := e.cells x (.inl hkk)
      obtain ⟨v, rfl, r⟩ := hv j p h2 hp
      exact wpAny_loadName_cell e.kind hkk g (m.hX ▸ hc) (Ends.ret r q)
    | free =>
      obtain ⟨a, u, g, hc, _, _, hv⟩ := e.cells x (.inr hkk)
      obtain ⟨v, rfl, r⟩ := hv j p h2 hp
      exact wpAny_loadName_free e.kind hkk g (m.hX ▸ hc) (Ends.ret r q) (not_e h4)
    | globalExplicit => cases hk
    | globalImplicit => cases hk
theorem chkGlob_e {x y : PySem.Str} {R : Prop} (h : chkGlob ns x y = true) (q : ns.lookup x = some .globalImplicit → x = y → (x == ("__debug__" : PySem.Str)) = false → R) : R := by
  refine and_e h fun h h3 => and_e h fun h1 h2 => q ?_ (eq_of_beq h2) (not_e h3)
  revert h1
  cases ns.lookup x with
  | none => exact fun z => nomatch z
  | some kd => cases kd <;> first | exact fun _ => rfl | exact fun z => nomatch z
variable {E : Value → Shared → Prop} {Q : Value → Shared → Prop} {x y : PySem.Str} {v : Value} {pos : Pos} {mg mb : PySem.Str → Option Value}
theorem snd_glob (H : Here c k A m ns sm env ρ) (hc : chkGlob ns x y = true) (hg : c.h₀.Ns mainGlobals mg) (hv : mg y = some v) (q : Q v m.s) : wpAny (model c.prog c.w) A (eval (.Name x pos) env) Q E m.s :=
  chkGlob_e hc fun h1 e h3 => Calls.Name_function_global H.ok.kind (H.kindOf x ▸ h1) (Calls.loadGlobal_global (mg := mg) (H.ok.glob ▸ hg.keeps fun b o e => m.old e) (e ▸ hv) q) h3
theorem snd_blt (H : Here c k A m ns sm env ρ) (hc : chkGlob ns x y = true) (hg : c.h₀.Ns mainGlobals mg) (hb : c.h₀.Ns builtinsNs mb) (hv : mg y = none) (hv2 : mb y = some v) (q : Q v m.s) : wpAny (model c.prog c.w) A (eval (.Name x pos) env) Q E m.s :=
  chkGlob_e hc fun h1 e h3 => Calls.Name_function_global H.ok.kind (H.kindOf x ▸ h1) (Calls.loadGlobal_builtin (mg := mg) (mb := mb) (H.ok.glob ▸ hg.keeps fun b o e => m.old e) (e ▸ hv) (H.ok.blt ▸ hb.keeps fun b o e => m.old e) (e ▸ hv2) q) h3
end
theorem get_put {ρ : Mine.Env} {k k' : Nat} {v p : PV} (h : (Mine.Env.put ρ k v).get k' = some p) : (k' = k ∧ p = v) ∨ (k' ≠ k ∧ ρ.get k' = some p) := by
  unfold Mine.Env.put Mine.Env.get at h
  rw [List.getElem?_set] at h
  by_cases e : k = k'
  · subst e
    simp only [if_true] at h
    split at h
    · rename_i v' hv
      split at hv
      · simp at hv; subst hv; simp at h; exact .inl ⟨rfl, h.symm⟩
      · cases hv
    · cases h
  · rw [if_neg e] at h
    exact .inr ⟨fun z => e z.symm, h⟩

theorem lookup_mem {α : Type} {l : List (PySem.Str × α)} {x : PySem.Str} {a : α} (h : l.lookup x = some a) : (x, a) ∈ l := by
  induction l with
  | nil => cases h
  | cons p r ih =>
    obtain ⟨y, b⟩ := p
    rw [List.lookup_cons] at h
    cases e : x == y with
    | true =>
      rw [e] at h
      have := beq_iff_eq.mp e
      subst this
      simp at h; subst h; exact .head _
    | false => rw [e] at h; exact .tail _ (ih h)
theorem lookup_rel {ns : Names} {x : PySem.Str} {k' : NameKind} : ∀ {names : Names}, (relNs ns names).lookup x = some k' → ∃ k, names.lookup x = some k ∧ (k' = k ∨ (k = .free ∧ k' = .cell))
  | [], h => by cases h
  | (n, k) :: r, h => by
    have h : List.lookup x ((if (k == NameKind.free && List.lookup n ns == some .cell) = true then (n, NameKind.cell) else (n, k)) :: relNs ns r) = some k' := h
    cases e : x == n with
    | true =>
      by_cases hc : (k == NameKind.free && List.lookup n ns == some .cell) = true
      · rw [if_pos hc, List.lookup_cons, e] at h
        simp at h hc
        exact ⟨k, by rw [List.lookup_cons, e], .inr ⟨hc.1, h.symm⟩⟩
      · rw [if_neg hc, List.lookup_cons, e] at h
        simp at h
        exact ⟨k, by rw [List.lookup_cons, e], .inl h.symm⟩
    | false =>
      have h' : (relNs ns r).lookup x = some k' := by
        by_cases hc : (k == NameKind.free && List.lookup n ns == some .cell) = true
        · rw [if_pos hc, List.lookup_cons, e] at h; exact h
        · rw [if_neg hc, List.lookup_cons, e] at h; exact h
      obtain ⟨k₂, a, b⟩ := lookup_rel h'
      exact ⟨k₂, by rw [List.lookup_cons, e]; exact a, b⟩
theorem relabel_names {scope : Scope} {env : PySem.Env} {ns : Names} (hk : env.scope.kind = .function) (hns : env.scope.names = ns) : (relabel scope env).names = relNs ns scope.names := by
  unfold relabel relNs PySem.Env.kindOf
  rw [hk, hns]
  simp

noncomputable def clGo (env : PySem.Env) : Names → List (PySem.Str × Addr) → List (PySem.Str × Addr)
  | [], cs => cs
  | (n, k) :: r, cs => if (k == .free) = true then clGo env r ((n, (env.cells.lookup n).getD 0) :: cs) else clGo env r cs
theorem closure_is {scope : Scope} {env : PySem.Env} (h : ∀ n, (n, NameKind.free) ∈ scope.names → ∃ a, env.cells.lookup n = some a) : closureFor scope env = pure (clGo env scope.names []) := by
  have go : ∀ (names : Names) (cs : List (PySem.Str × Addr)), (∀ n, (n, NameKind.free) ∈ names → ∃ a, env.cells.lookup n = some a) →
      (forIn names cs fun (x : PySem.Str × NameKind) (r : List (PySem.Str × Addr)) => (do
        if (x.2 == NameKind.free) = true then do
          let a ← cellOf env x.1
          pure (ForInStep.yield ((x.1, a) :: r))
        else pure (ForInStep.yield r) : Sem (ForInStep (List (PySem.Str × Addr))))) = pure (clGo env names cs) := by
    intro names
    induction names with
    | nil => intro cs _; rfl
    | cons p r ih =>
      intro cs hh
      obtain ⟨n, k⟩ := p
      rw [List.forIn_cons]
      unfold clGo
      by_cases hk : (k == NameKind.free) = true
      · simp only [hk, if_true]
        have hk' : k = .free := by simpa using hk
        subst hk'
        obtain ⟨a, ha⟩ := hh n (.head _)
        unfold cellOf
        rw [ha]
        exact ih _ fun n' hn' => hh n' (.tail _ hn')
      · simp only [hk, Bool.false_eq_true, if_false]
        exact ih _ fun n' hn' => hh n' (.tail _ hn')
  have := go scope.names [] h
  unfold closureFor
  exact congrArg (fun t : Sem (List (PySem.Str × Addr)) => t >>= fun cs => (pure cs : Sem (List (PySem.Str × Addr)))) this

theorem lookup_cons_e {α : Type} {y n : PySem.Str} {a b : α} {l : List (PySem.Str × α)} {R : Prop} (h : List.lookup y ((n, a) :: l) = some b) (q1 : y = n → a = b → R) (q2 : (y == n) = false → List.lookup y l = some b → R) : R := by
  rw [List.lookup_cons] at h
  cases e : y == n with
  | true => rw [e] at h; exact q1 (eq_of_beq e) (Option.some.inj h)
  | false => rw [e] at h; exact q2 e h
theorem lookup_cons_any {α : Type} {y n : PySem.Str} {a : α} {l : List (PySem.Str × α)} (h : ∃ b, List.lookup y l = some b) : ∃ b, List.lookup y ((n, a) :: l) = some b := by
  rw [List.lookup_cons]
  cases y == n with
  | true => exact ⟨a, rfl⟩
  | false => exact h
structure Clo (env : PySem.Env) (names : Names) (cs out : List (PySem.Str × Addr)) : Prop where
  sub : ∀ y a, out.lookup y = some a → env.cells.lookup y = some a
  old : ∀ y, (∃ a, cs.lookup y = some a) → ∃ a, out.lookup y = some a
  new : ∀ y, (y, NameKind.free) ∈ names → ∃ a, out.lookup y = some a
theorem clGo_ok {env : PySem.Env} (names : Names) : ∀ (cs : List (PySem.Str × Addr)), (∀ n, (n, NameKind.free) ∈ names → ∃ a, env.cells.lookup n = some a) → (∀ y a, cs.lookup y = some a → env.cells.lookup y = some a) → Clo env names cs (clGo env names cs) := by
  induction names with
  | nil => exact fun cs _ g => ⟨g, fun y h => h, fun y h => nomatch h⟩
  | cons p r ih =>
    intro cs h g
    obtain ⟨n, k⟩ := p
    by_cases hk : (k == NameKind.free) = true
    · have e : clGo env ((n, k) :: r) cs = clGo env r ((n, (env.cells.lookup n).getD 0) :: cs) := if_pos hk
      rw [e]
      cases eq_of_beq hk
      obtain ⟨a, ha⟩ := h n (.head _)
      have I := ih ((n, (env.cells.lookup n).getD 0) :: cs) (fun n' hn' => h n' (.tail _ hn')) fun y b hb => lookup_cons_e hb (fun e1 e2 => by rw [e1, ← e2, ha]; rfl) fun _ hb => g y b hb
      refine ⟨I.sub, fun y hy => I.old y (lookup_cons_any hy), fun y hy => ?_⟩
      rcases List.mem_cons.mp hy with e | hy
      · cases e
        exact I.old n ⟨(env.cells.lookup n).getD 0, by rw [List.lookup_cons, beq_self_eq_true]⟩
      · exact I.new y hy
    · have e : clGo env ((n, k) :: r) cs = clGo env r cs := if_neg hk
      rw [e]
      have I := ih cs (fun n' hn' => h n' (.tail _ hn')) g
      refine ⟨I.sub, I.old, fun y hy => ?_⟩
      rcases List.mem_cons.mp hy with e | hy
      · cases e; exact absurd rfl hk
      · exact I.new y hy

structure ScopeOk (ns : Names) (sm : Slots) (scope : Scope) (x : PySem.Str) (k : Nat) : Prop where
  kind : scope.kind = .function
  names : ∀ y kd, (y, kd) ∈ scope.names → (kd = .local ∧ (y = x ∨ y = ".0") ∧ scope.names.lookup y = some .local) ∨ (kd = .free ∧ ns.lookup y = some .cell ∧ y ≠ x) ∨ kd = .globalImplicit
  var : scope.names.lookup x = some .local
  dot : sm.lookup (".0" : PySem.Str) = none
  slot : ∀ y j, sm.lookup y = some j → j ≠ k
theorem scope_ok {ns : Names} {sm : Slots} {scope : Scope} {x : PySem.Str} {k : Nat} (h : chkScope ns sm scope x k = true) : ScopeOk ns sm scope x k := by
  unfold chkScope at h
  simp only [Bool.and_eq_true, Bool.not_eq_true', List.all_eq_true] at h
  obtain ⟨⟨⟨⟨⟨h1, h2⟩, h3⟩, h4⟩, h5⟩, h6⟩ := h
  have loc : ∀ {o : Option NameKind}, isLocalKind o = true → o = some .local := fun h => by unfold isLocalKind at h; split at h <;> first | rfl | cases h
  have cel : ∀ {o : Option NameKind}, isCellKind o = true → o = some .cell := fun h => by unfold isCellKind at h; split at h <;> first | rfl | cases h
  refine ⟨by simpa using h1, fun y kd hm => ?_, loc h3, by simpa using h5, fun y j hj => ?_⟩
  · have := h2 _ hm
    cases kd with
    | «local» =>
      simp only [Bool.and_eq_true, Bool.or_eq_true, beq_iff_eq] at this
      exact .inl ⟨rfl, this.1, loc this.2⟩
    | cell => cases this
    | free =>
      simp only [Bool.and_eq_true, Bool.not_eq_true', beq_eq_false_iff_ne] at this
      exact .inr (.inl ⟨rfl, cel this.1, this.2⟩)
    | globalExplicit => cases this
    | globalImplicit => exact .inr (.inr rfl)
  · have := h6 _ (lookup_mem hj)
    simpa using this

theorem comp_env {ns : Names} {sm : Slots} {scope : Scope} {x : PySem.Str} {k : Nat} {env : PySem.Env} {ρ : Mine.Env} {p : PV} {v : Value} {C : Addr} {m : PySem.Str → Option Value} (S : ScopeOk ns sm scope x k) (e : EnvOk c X σ sm env ρ) (hns : env.scope.names = ns)
    (hC : Out X σ C) (hm : X.h.Ns C m) (hx : m x = some v) (hv : VR c X p v) :
    EnvOk c X σ ((x, k) :: sm) (compEnvC scope (clGo env scope.names []) C env) (Mine.Env.put ρ k p) := by
  have fr : ∀ n, (n, NameKind.free) ∈ scope.names → ∃ a, env.cells.lookup n = some a := fun n hn => by
    rcases S.names n _ hn with ⟨z, _⟩ | ⟨_, z, _⟩ | z
    · cases z
    · subst hns
      obtain ⟨a, u, g, _⟩ := e.cells n (.inl z)
      exact ⟨a, g⟩
    · cases z
  obtain ⟨c1, _, c3⟩ := clGo_ok scope.names [] fr (fun y a z => nomatch z)
  have hnames : (relabel scope env).names = relNs ns scope.names := relabel_names e.kind hns
  have kd : ∀ y kd', (compEnvC scope (clGo env scope.names []) C env).kindOf y = some kd' → ∃ k₁, scope.names.lookup y = some k₁ ∧ (kd' = k₁ ∨ (k₁ = .free ∧ kd' = .cell)) := fun y kd' h => by
    have h' : (relabel scope env).names.lookup y = some kd' := h
    rw [hnames] at h'
    exact lookup_rel h'
  have sm' : ∀ y j, ((x, k) :: sm).lookup y = some j → (y = x ∧ j = k) ∨ (y ≠ x ∧ sm.lookup y = some j) := fun y j h => by
    rw [List.lookup_cons] at h
    cases e : y == x with
    | true => rw [e] at h; simp at h; exact .inl ⟨beq_iff_eq.mp e, h.symm⟩
    | false => rw [e] at h; exact .inr ⟨beq_eq_false_iff_ne.mp e, h⟩
  refine ⟨S.kind, e.glob, e.blt, ⟨m, hm, fun y j pv h1 h2 h3 => ?_⟩, hC.2, fun y hy => ?_, fun y z a h1 h2 => e.apart y z a (c1 y a h1) (c1 z a h2)⟩
  · obtain ⟨k₁, q1, q2⟩ := kd y _ h3
    have hk₁ : k₁ = .local := by
      rcases q2 with q | ⟨_, q⟩
      · exact q.symm
      · cases q
    subst hk₁
    rcases S.names y _ (lookup_mem q1) with ⟨_, z, _⟩ | ⟨z, _⟩ | z
    · rcases z with rfl | rfl
      · rcases sm' y j h1 with ⟨_, rfl⟩ | ⟨z, _⟩
        · rcases get_put h2 with ⟨_, rfl⟩ | ⟨z, _⟩
          · exact ⟨v, hx, hv⟩
          · exact absurd rfl z
        · exact absurd rfl z
      · rcases sm' _ j h1 with ⟨rfl, rfl⟩ | ⟨_, z⟩
        · rcases get_put h2 with ⟨_, rfl⟩ | ⟨z, _⟩
          · exact ⟨v, hx, hv⟩
          · exact absurd rfl z
        · rw [S.dot] at z; cases z
    · cases z
    · cases z
  · have hfree : (y, NameKind.free) ∈ scope.names := by
      rcases hy with hy | hy
      · obtain ⟨k₁, q1, q2⟩ := kd y _ hy
        have q1' := lookup_mem q1
        rcases q2 with rfl | ⟨rfl, _⟩
        · rcases S.names y _ q1' with ⟨z, _⟩ | ⟨z, _⟩ | z <;> cases z
        · exact q1'
      · obtain ⟨k₁, q1, q2⟩ := kd y _ hy
        have q1' := lookup_mem q1
        rcases q2 with rfl | ⟨rfl, z⟩
        · exact q1'
        · cases z
    obtain ⟨a', ha'⟩ := c3 y hfree
    have ha := c1 y a' ha'
    rcases S.names y _ hfree with ⟨z, _⟩ | ⟨_, z, hne⟩ | z
    · cases z
    · subst hns
      obtain ⟨a, u, g, hc, f, q, r⟩ := e.cells y (.inl z)
      rw [ha] at g; cases g
      refine ⟨a', u, ha', hc, f, q, fun j pv h1 h2 => ?_⟩
      rcases sm' y j h1 with ⟨w, _⟩ | ⟨_, w⟩
      · exact absurd w hne
      · rcases get_put h2 with ⟨w2, _⟩ | ⟨_, w2⟩
        · exact absurd w2 (S.slot y j w)
        · exact r j pv w w2
    · cases z
end Mine
namespace Mine
open PySem PyProof.V PyProof.Rows
set_option autoImplicit false
set_option linter.unusedVariables false
variable {c : Cx} {X X' : Vw} {σ σ' σ₁ : St} {A : Around} {s s₁ : Shared} {m n : Now c}

noncomputable def Now.touch (n : Now c) {a : Addr} (o : Out n.X n.σ a) (h' : Heap) (t : Tok) (hk : ∀ b ob, b ≠ a → n.X.h.get? b = some ob → h'.get? b = some ob) : Now c := ⟨n.X.at h', n.σ, sh n.s h' t, rfl, n.R.touch o.2.1 o.2.2 hk⟩
section
variable {a b : Addr} {o : Out n.X n.σ a} {h' : Heap} {t : Tok} {hk : ∀ b ob, b ≠ a → n.X.h.get? b = some ob → h'.get? b = some ob} {cur : Addr → Prop}
theorem To.touch (T : To cur m n) (h0 : m.X.h.get? a = none) : To cur m (n.touch o h' t hk) := by
  obtain ⟨h, t₀, e⟩ := T.sh
  exact ⟨⟨h', t, (congrArg (fun z => Mine.sh z h' t) e).trans rfl⟩, T.nx.touch h0 hk⟩
theorem Le.touch : Le n.X (n.touch o h' t hk).X := ⟨Nat.le_refl _, fun _ _ => rfl, fun _ z => z, fun b ob fz e => hk b ob (fun z => o.2.1 (z ▸ fz)) e⟩
theorem Out.touch (ob : Out n.X n.σ b) (h : b ≠ a) : Out (n.touch o h' t hk).X n.σ b := ⟨ob.1.elim fun o e => ⟨o, hk b o h e⟩, ob.2⟩
theorem Out.to (ob : Out n.X n.σ b) {n' : Now c} (T : To none' n n') : Out n'.X n'.σ b := ob.next T.nx
end
theorem Heap_Ns_born {h : Heap} {a : Addr} {g : PySem.Str → Option Value} (hn : h.Ns a g) : ∃ o, h.get? a = some o := by
  obtain ⟨o, _, _, ho, _⟩ := hn
  exact ⟨o, ho⟩

section
variable {k j : Nat} {ns : Names} {sm : Slots} {env : PySem.Env} {ρ : Mine.Env} {scope : Scope} {x : PySem.Str}
noncomputable def cE (scope : Scope) (env : PySem.Env) (C : Addr) : PySem.Env := compEnvC scope (clGo env scope.names []) C env
theorem Here.comp {C : Addr} {g : PySem.Str → Option Value} {p : PV} {v : Value} (S : ScopeOk ns sm scope x j) (H : Here c k A n ns sm env ρ) (oC : Out n.X n.σ C) (hm : n.X.h.Ns C g) (hx : g x = some v) (hv : VR c n.X p v) :
    Here c k A n (relNs ns scope.names) ((x, j) :: sm) (cE scope env C) (Mine.Env.put ρ j p) := ⟨comp_env S H.ok H.names oC hm hx hv, relabel_names H.ok.kind H.names, H.room⟩
noncomputable def tstE (C : Fn → List PV → B.M PV) {α : Type} (pc : Option PE) (ρ : Mine.Env) (a b : B.M α) : B.M α := match pc with
  | none => a
  | some p => B.M.bind (B.evalE C p ρ) fun t => B.M.cond (truth t) a b
noncomputable def BN (_ : Now c) (r v : Bool) : Prop := v = r
noncomputable def TS1 (c : Cx) (C : Fn → List PV → B.M PV) (k : Nat) (ns : Names) (sm : Slots) (ifs : List PySem.Expr) (pc : Option PE) : Prop :=
  ∀ (m : Now c) (A : Around) (env : PySem.Env) (ρ : Mine.Env) (a b : B.M (List PV)) (Q : List PV → St → Prop), Here c k A m ns sm env ρ → B.W (tstE C pc ρ a b) m.σ Q →
    wpAny (model c.prog c.w) A (forIn ifs true fun c' r => if r = true then do let ok ← isTrue c' env (eval c' env); pure (ForInStep.yield ok) else pure (ForInStep.yield r)) (Ends none' BN m fun ok σ' => B.W (if ok = true then a else b) σ' Q) NoE m.s

structure Lp (c : Cx) (A : Around) (m : Now c) (I D C : Addr) (ps : List PV) (fp : List Addr) (P : Nat → Value → Prop) (Sx : Nat → Heap → Prop) : Prop where
  it : Iter c A m.X I ps fp P Sx
  i0 : m.X.h.get? I = none
  d0 : m.X.h.get? D = none
  c0 : m.X.h.get? C = none
  id : I ≠ D
  ic : I ≠ C
  dc : D ≠ C
structure Turns (m n : Now c) (I D C : Addr) (Sx : Nat → Heap → Prop) (i : Nat) (os : List PV) (ys : List Value) : Prop where
  to : To none' m n
  oI : Out n.X n.σ I
  oD : Out n.X n.σ D
  oC : Out n.X n.σ C
  acc : n.X.h.PlainList D ys.toArray
  vals : VRs c n.X os ys
  it : Sx i n.X.h
  nm : ∃ g, n.X.h.Ns C g
  len : os.length ≤ i
section
variable {I D C : Addr} {ps : List PV} {fp : List Addr} {P : Nat → Value → Prop} {Sx : Nat → Heap → Prop} {i : Nat} {os : List PV} {ys : List Value}
theorem Turns.on {n' : Now c} (L : Lp c A m I D C ps fp P Sx) (T : Turns m n I D C Sx i os ys) (t : To none' n n') : Turns m n' I D C Sx i os ys := by
  obtain ⟨g, hg⟩ := T.nm
  refine ⟨T.to.trans t, T.oI.to t, T.oD.to t, T.oC.to t, T.acc.at fun o e => t.nx.keep _ o e T.oD.2.2 _root_.id, VRs.le t.le _ _ T.vals, ?_, ⟨g, hg.at' fun o e => t.nx.keep _ o e T.oC.2.2 _root_.id⟩, T.len⟩
  exact (L.it.le T.to.le).stay T.oI T.it t.nx _root_.id
theorem Turns.item {h' : Heap} {t : Tok} (L : Lp c A m I D C ps fp P Sx) (T : Turns m n I D C Sx i os ys) (hS : Sx (i + 1) h') (hk : ∀ b ob, b ≠ I → n.X.h.get? b = some ob → h'.get? b = some ob) : Turns m (n.touch T.oI h' t hk) I D C Sx (i + 1) os ys := by
  obtain ⟨g, hg⟩ := T.nm
  exact ⟨T.to.touch L.i0, ⟨L.it.born _ _ hS, T.oI.2⟩, Out.touch T.oD L.id.symm, Out.touch T.oC L.ic.symm, T.acc.at fun o e => hk _ o L.id.symm e, VRs.le Le.touch _ _ T.vals, hS, ⟨g, hg.at' fun o e => hk _ o L.ic.symm e⟩, Nat.le_succ_of_le T.len⟩
theorem Turns.name {h' : Heap} {t : Tok} {g : PySem.Str → Option Value} (L : Lp c A m I D C ps fp P Sx) (T : Turns m n I D C Sx i os ys) (hn : h'.Ns C g) (hk : ∀ b ob, b ≠ C → n.X.h.get? b = some ob → h'.get? b = some ob) : Turns m (n.touch T.oC h' t hk) I D C Sx i os ys := by
  refine ⟨T.to.touch L.c0, Out.touch T.oI L.ic, Out.touch T.oD L.dc, ⟨Heap_Ns_born hn, T.oC.2⟩, T.acc.at fun o e => hk _ o L.dc e, VRs.le Le.touch _ _ T.vals, ?_, ⟨g, hn⟩, T.len⟩
  refine L.it.walks.frame i _ _ T.it fun b hb o e => hk b o (fun z => ?_) e
  rcases L.it.fps b hb with h | f
  · exact L.ic (h.symm.trans z)
  · obtain ⟨o', e'⟩ := m.R.fz b f
    exact nomatch (z ▸ L.c0).symm.trans e'
theorem Turns.push {h' : Heap} {t : Tok} {r : PV} {y : Value} (L : Lp c A m I D C ps fp P Sx) (T : Turns m n I D C Sx (i + 1) os ys) (hos : os.length ≤ i) (hy : VR c n.X r y) (hl : h'.PlainList D (ys ++ [y]).toArray) (hk : ∀ b ob, b ≠ D → n.X.h.get? b = some ob → h'.get? b = some ob) :
    Turns m (n.touch T.oD h' t hk) I D C Sx (i + 1) (os ++ [r]) (ys ++ [y]) := by
  obtain ⟨g, hg⟩ := T.nm
  have al : ∃ o, h'.get? D = some o := hl.elim fun n e => ⟨_, e⟩
  refine ⟨T.to.touch L.d0, Out.touch T.oI L.id, ⟨al, T.oD.2⟩, Out.touch T.oC L.dc.symm, hl, VRs.le Le.touch _ _ (T.vals.append (VRs.cons hy VRs.nil)), ?_, ⟨g, hg.at' fun o e => hk _ o L.dc.symm e⟩, by rw [List.length_append]; exact Nat.succ_le_succ hos⟩
  refine L.it.walks.frame _ _ _ T.it fun b hb o e => hk b o (fun z => ?_) e
  rcases L.it.fps b hb with h | f
  · exact L.id (h.symm.trans z)
  · obtain ⟨o', e'⟩ := m.R.fz b f
    exact nomatch (z ▸ L.d0).symm.trans e'

variable {C' : Fn → List PV → B.M PV} {ifs : List PySem.Expr} {elt : PySem.Expr} {pe : PE} {pc : Option PE} {f : PV → B.M PV} {tc : Option (PV → B.M PV)} {Q : List PV → St → Prop} {E : Value → Shared → Prop} {pv : PV}
noncomputable def Rest (tc : Option (PV → B.M PV)) (f : PV → B.M PV) (ps : List PV) (Q : List PV → St → Prop) (n : Now c) (i : Nat) (os : List PV) : Prop := B.W (B.mapG tc f (ps.drop i)) n.σ fun rest σ' => Q (os ++ rest) σ'
theorem comp_elt {Next : Shared → Prop} (he : SE1 c C' k (relNs ns scope.names) ((x, j) :: sm) elt pe) (hlim : i < LIM) (L : Lp c A m I D C ps fp P Sx) (T : Turns m n I D C Sx (i + 1) os ys) (hos : os.length ≤ i) (H : Here c k A n (relNs ns scope.names) ((x, j) :: sm) (cE scope env C) ρ)
    (h : B.W (B.evalE C' pe ρ) n.σ fun r σ' => B.W (B.mapG tc f (ps.drop (i + 1))) σ' fun xs σ' => Q (os ++ r :: xs) σ')
    (hN : ∀ (n' : Now c) (os' : List PV) (ys' : List Value), Turns m n' I D C Sx (i + 1) os' ys' → Rest tc f ps Q n' (i + 1) os' → Next n'.s) :
    wpAny (model c.prog c.w) A (eval elt (cE scope env C)) (fun x s₄ => wpAny (model c.prog c.w) A (call (.builtin "list.append") [.ref D, x]) (fun _ s₅ => Next s₅) E s₄) E n.s := by
  refine (he n A _ _ _ H h).sub fun y n₁ r t hy h => ?_
  have T₁ := T.on L t
  have hlen : ys.toArray.size ≤ sizeLine := by
    rw [List.size_toArray, T.vals.length]
    exact Nat.le_trans hos (Nat.le_trans (Nat.le_of_succ_le (lim2 hlim)) lim_le)
  refine wpAny_list_append_plain (hsz := hlen) (n₁.hX ▸ T₁.acc) fun h₇ hl₇ hs₇ => ?_
  have T₂ := Turns.push (r := r) (y := y) (h' := h₇) (t := n₁.s.toks) L T₁ hos hy (by simpa using hl₇) fun b ob hb e => hs₇.extBut b ob hb (n₁.hX ▸ e)
  exact hN _ _ _ T₂ ((B.mapG tc f (ps.drop (i + 1))).mono _ _ _ (fun xs σ' q => List.append_cons os r xs ▸ q) h)
theorem comp_body {Next : Shared → Prop} {px : Pos} {v : Value} (S : ScopeOk ns sm scope x j) (ht : TS1 c C' k (relNs ns scope.names) ((x, j) :: sm) ifs pc) (he : SE1 c C' k (relNs ns scope.names) ((x, j) :: sm) elt pe) (hlim : i < LIM)
    (hf : ∀ v, f v = B.evalE C' pe (Mine.Env.put ρ j v)) (htc : ∀ v (a b : B.M (List PV)), B.tstM tc v a b = tstE C' pc (Mine.Env.put ρ j v) a b)
    (L : Lp c A m I D C ps fp P Sx) (T : Turns m n I D C Sx (i + 1) os ys) (hos : os.length ≤ i) (H : Here c k A m ns sm env ρ) (hv : VR c n.X pv v) (h : B.W (B.mapG tc f (pv :: ps.drop (i + 1))) n.σ fun rest σ' => Q (os ++ rest) σ')
    (hN : ∀ (n' : Now c) (os' : List PV) (ys' : List Value), Turns m n' I D C Sx (i + 1) os' ys' → Rest tc f ps Q n' (i + 1) os' → Next n'.s) :
    wpAny (model c.prog c.w) A (assign (.Name x px) (cE scope env C) v) (fun _ s₂ => wpAny (model c.prog c.w) A (forIn ifs true fun c' r => if r = true then do let ok ← isTrue c' (cE scope env C) (eval c' (cE scope env C)); pure (ForInStep.yield ok) else pure (ForInStep.yield r)) (fun ok s₃ =>
      if ok = true then wpAny (model c.prog c.w) A (eval elt (cE scope env C)) (fun x s₄ => wpAny (model c.prog c.w) A (call (.builtin "list.append") [.ref D, x]) (fun _ s₅ => Next s₅) E s₄) E s₃ else Next s₃) E s₂) E n.s := by
  obtain ⟨g, hg⟩ := T.nm
  refine wpAny_assign_Name (wpAny_storeName_local (m := g) (lookup_relabel_local S.var) (n.hX ▸ hg) (fun h₃ hn₃ hs₃ => ?_) (by simp [cE, compEnvC, relabel, S.kind]))
  have T₁ := Turns.name (h' := h₃) (t := n.s.toks + 1) L T hn₃ fun b ob hb e => hs₃.extBut b ob hb (n.hX ▸ e)
  have H₁ := Here.comp S (H.to T₁.to) T₁.oC hn₃ (if_pos rfl) (VR.le Le.touch _ _ hv)
  rw [B.mapG, htc] at h
  refine sub (ht _ A _ _ _ _ _ H₁ h) fun ok n₂ r t e h => ?_
  cases e
  have T₂ := T₁.on L t
  cases ok with
  | true => rw [hf] at h; exact comp_elt he hlim L T₂ hos (H₁.to t) h hN
  | false => exact hN _ _ _ T₂ h
noncomputable def Now.addFz (n : Now c) {D : Addr} (o : Out n.X n.σ D) : Now c := ⟨n.X.fz fun b => b = D, n.σ, n.s, n.hX, n.R.addFz o.1 o.2.2⟩
theorem To.addFz {cur : Addr → Prop} {D : Addr} {o : Out n.X n.σ D} (T : To cur m n) (h : m.X.h.get? D = none) : To cur m (n.addFz o) := ⟨T.sh, T.nx.addFz h⟩
theorem Le.addFz {D : Addr} {o : Out n.X n.σ D} : Le n.X (n.addFz o).X := ⟨Nat.le_refl _, fun _ _ => rfl, fun _ z => Or.inl z, fun _ _ _ e => e⟩
structure Left (m n : Now c) (D C : Addr) (out : List PV) : Prop where
  to : To none' m n
  oC : Out n.X n.σ C
  nm : ∃ g, n.X.h.Ns C g
  val : VR c n.X (.lst out) (.ref D)
theorem comp_done {h' : Heap} {t : Tok} (L : Lp c A m I D C ps fp P Sx) (T : Turns m n I D C Sx i os ys) (hlim : i < LIM) (hk : ∀ b ob, b ≠ I → n.X.h.get? b = some ob → h'.get? b = some ob) :
    Left m ((n.touch T.oI h' t hk).addFz (Out.touch T.oD L.id.symm)) D C os := by
  obtain ⟨g, hg⟩ := T.nm
  refine ⟨(T.to.touch L.i0).addFz L.d0, ⟨Heap_Ns_born (h := h') (hg.at' fun o e => hk _ o L.ic.symm e), fun z => z.elim T.oC.2.1 fun w => L.dc w.symm, T.oC.2.2⟩, ⟨g, hg.at' fun o e => hk _ o L.ic.symm e⟩, ?_⟩
  exact VR.lst_i (.inr rfl) (T.acc.at fun o e => hk _ o L.id.symm e) (Nat.le_trans T.len (Nat.le_of_succ_le (lim2 hlim))) (VRs.le Le.addFz _ _ (VRs.le Le.touch _ _ T.vals))
variable {iter : PySem.Expr} {px pos : Pos} {RR : Result → Shared → Prop}
theorem comp_loop (S : ScopeOk ns sm scope x j) (ht : TS1 c C' k (relNs ns scope.names) ((x, j) :: sm) ifs pc) (he : SE1 c C' k (relNs ns scope.names) ((x, j) :: sm) elt pe) (hlim : ps.length < LIM)
    (hf : ∀ v, f v = B.evalE C' pe (Mine.Env.put ρ j v)) (htc : ∀ v (a b : B.M (List PV)), B.tstM tc v a b = tstE C' pc (Mine.Env.put ρ j v) a b)
    (L : Lp c A m I D C ps fp P Sx) (T : Turns m n I D C Sx 0 [] []) (H : Here c k A m ns sm env ρ) (h : B.W (B.mapG tc f ps) n.σ Q) (hQ : ∀ n' out, Left m n' D C out → Q out n'.σ → RR (.ok .next) n'.s) :
    codeAny (model c.prog c.w) A (.compLoop (.ListComp elt [⟨.Name x px, iter, ifs, 0⟩] scope pos) 0 (.ref I) (.ref D) (cE scope env C)) RR n.s := by
  refine codeAny_compLoop_tests (fun cnt s' => ∃ (n' : Now c) (i : Nat) (os : List PV) (ys : List Value), n'.s = s' ∧ Turns m n' I D C Sx i os ys ∧ Rest tc f ps Q n' i os ∧ i ≤ ps.length ∧ cnt = ps.length + 1 - i) ?_ (ps.length + 1) ⟨n, 0, [], [], rfl, T, h, Nat.zero_le _, rfl⟩
  rintro cnt s' ⟨n', i, os, ys, rfl, T, h, hle, rfl⟩
  rcases Nat.lt_or_eq_of_le hle with hlt | rfl
  · refine L.it.walks.item i _ _ _ hlt (n'.hX ▸ T.it) fun v h₂ tk₂ hP hst₂ hk₂ => ?_
    have hk : ∀ b ob, b ≠ I → n'.X.h.get? b = some ob → h₂.get? b = some ob := fun b ob hb e => hk₂ b ob (fun z => hb (List.mem_singleton.mp z)) (n'.hX ▸ e)
    have T₁ := Turns.item (t := tk₂) L T hst₂ hk
    obtain ⟨pv, epv, hpv⟩ := (L.it.le T₁.to.le).vals i v hP
    have hd : ps.drop i = pv :: ps.drop (i + 1) := by
      rw [List.drop_eq_getElem_cons hlt]
      rw [List.getElem?_eq_getElem hlt] at epv
      rw [Option.some.inj epv]
    exact comp_body S ht he (Nat.lt_trans hlt hlim) hf htc L T₁ T.len H hpv (hd ▸ h) fun n'' os' ys' T' R' => ⟨_, by with_reducible exact O.a22 (by assumption), n'', i + 1, os', ys', rfl, T', R', hlt, rfl⟩
  · refine L.it.walks.done _ _ _ (n'.hX ▸ T.it) fun h₂ tk₂ hk₂ => ?_
    have hk : ∀ b ob, b ≠ I → n'.X.h.get? b = some ob → h₂.get? b = some ob := fun b ob hb e => hk₂ b ob (fun z => hb (List.mem_singleton.mp z)) (n'.hX ▸ e)
    refine hQ _ _ (comp_done (t := tk₂) L T hlim hk) ?_
    unfold Rest at h
    rw [List.drop_of_length_le (Nat.le_refl _)] at h
    have h : Q (os ++ []) n'.σ := h
    rw [List.append_nil] at h
    exact h
end

theorem none_old {h h' : Heap} {b : Addr} (hk : ∀ b o, h.get? b = some o → h'.get? b = some o) (e : h'.get? b = none) : h.get? b = none := by
  cases e2 : h.get? b with
  | none => rfl
  | some o => exact nomatch e.symm.trans (hk b o e2)
theorem comp_from {elt iter : PySem.Expr} {px pos : Pos} {ifs : List PySem.Expr} {C' : Fn → List PV → B.M PV} {pe : PE} {pc : Option PE} {f : PV → B.M PV} {tc : Option (PV → B.M PV)} {Q : List PV → St → Prop} {ps : List PV} {RR : Result → Shared → Prop}
    {h' h₁ H2 : Heap} {I D C : Addr} {fp : List Addr} {P : Nat → Value → Prop} {Sx : Nat → Heap → Prop} {g : PySem.Str → Option Value} {tk : Tok} {od : Obj}
    (S : ScopeOk ns sm scope x j) (ht : TS1 c C' k (relNs ns scope.names) ((x, j) :: sm) ifs pc) (he : SE1 c C' k (relNs ns scope.names) ((x, j) :: sm) elt pe)
    (hf : ∀ v, f v = B.evalE C' pe (Mine.Env.put ρ j v)) (htc : ∀ v (a b : B.M (List PV)), B.tstM tc v a b = tstE C' pc (Mine.Env.put ρ j v) a b)
    (H : Here c k A m ns sm env ρ) (hlim : ps.length < LIM) (h : B.W (B.mapG tc f ps) m.σ Q)
    (hI0 : m.X.h.get? I = none) (hIa : ∃ o, h'.get? I = some o) (hk : ∀ b o, m.X.h.get? b = some o → h'.get? b = some o) (It : Iter c A m.X I ps fp P Sx) (hS : Sx 0 h')
    (hH2 : H2 = h'.push { cls := .type "list", data := .seq ([] : List Value).toArray }) (hD : D = h'.objs.size) (hC : C = H2.objs.size) (hns₁ : h₁.Ns C g) (hsb₁ : Heap.SameBut C (H2.push od) h₁)
    (hQ : ∀ n' out, m.X.h.get? C = none → D ≠ C → Left m n' D C out → Q out n'.σ → RR (.ok .next) n'.s) :
    codeAny (model c.prog c.w) A (.compStart (.ListComp elt [⟨.Name x px, iter, ifs, 0⟩] scope pos) 0 (.ref I) (.ref D) (cE scope env C)) RR (sh m.s h₁ tk) := by
  have hCD : C = D + 1 := by rw [hC, hD, hH2, Heap.size_push]
  have hDC : D ≠ C := by rw [hCD]; exact Nat.ne_of_lt (Nat.lt_succ_self _)
  have lt : ∀ b o, h'.get? b = some o → b < D := fun b o e => hD ▸ Heap.lt_size e
  have below : ∀ b o, h'.get? b = some o → b ≠ C ∧ b ≠ D := fun b o e => ⟨by rw [hCD]; exact Nat.ne_of_lt (Nat.lt_succ_of_lt (lt b o e)), Nat.ne_of_lt (lt b o e)⟩
  have old : ∀ b o, h'.get? b = some o → h₁.get? b = some o := fun b o e => hsb₁.extBut b o (below b o e).1 (Heap.get?_push_of_some _ (hH2 ▸ Heap.get?_push_of_some _ e))
  have hacc : h₁.PlainList D #[] := ⟨0, hsb₁.extBut _ _ hDC (Heap.get?_push_of_some _ (by rw [hH2, hD]; exact Heap.get?_push_size _ rfl))⟩
  have hD0 : m.X.h.get? D = none := none_old hk (Heap.get?_none_of_le (Nat.le_of_eq hD.symm))
  have hC0 : m.X.h.get? C = none := none_old hk (Heap.get?_none_of_le (by rw [← hD, hCD]; exact Nat.le_succ _))
  obtain ⟨oi, eI⟩ := hIa
  have kp : ∀ b o, m.X.h.get? b = some o → h₁.get? b = some o := fun b o e => old b o (hk b o e)
  let n : Now c := ⟨m.X.at h₁, m.σ, sh m.s h₁ tk, rfl, m.R.heap fun b o e _ => kp b o e⟩
  have T : To none' m n := ⟨⟨_, _, rfl⟩, Nx.heap _ (born_ne kp) (fun b o e _ => kp b o e) (fun _ _ z => z)⟩
  have out : ∀ {a}, m.X.h.get? a = none → (∃ o, h₁.get? a = some o) → Out n.X n.σ a := fun e al => ⟨al, dead_fz m.R e, dead_mut m.R e⟩
  have L : Lp c A m I D C ps fp P Sx := ⟨It, hI0, hD0, hC0, (below I oi eI).2, (below I oi eI).1, hDC⟩
  have hst₁ : Sx 0 h₁ := It.walks.frame _ _ _ hS fun b _ o e => old b o e
  have T₀ : Turns m n I D C Sx 0 [] [] := ⟨T, out hI0 ⟨oi, old _ _ eI⟩, out hD0 (hacc.elim fun _ e => ⟨_, e⟩), out hC0 (Heap_Ns_born hns₁), hacc, rfl, hst₁, ⟨g, hns₁⟩, Nat.le_refl _⟩
  have lp := comp_loop (iter := iter) (px := px) (pos := pos) S ht he hlim hf htc L T₀ H h (RR := RR) fun n' out l q => hQ n' out hC0 hDC l q
  exact codeAny_compStart_list lp (It.walks.self 0 _ _ _ hst₁ lp)
theorem comp_run {elt iter : PySem.Expr} {px pos : Pos} {ifs : List PySem.Expr} {C' : Fn → List PV → B.M PV} {pe : PE} {pc : Option PE} {f : PV → B.M PV} {tc : Option (PV → B.M PV)} {Q : List PV → St → Prop} {p : PV} {ps : List PV} {xv : Value} {RR : Value → Addr → Result → Shared → Prop}
    (S : ScopeOk ns sm scope x j) (ht : TS1 c C' k (relNs ns scope.names) ((x, j) :: sm) ifs pc) (he : SE1 c C' k (relNs ns scope.names) ((x, j) :: sm) elt pe)
    (hf : ∀ v, f v = B.evalE C' pe (Mine.Env.put ρ j v)) (htc : ∀ v (a b : B.M (List PV)), B.tstM tc v a b = tstE C' pc (Mine.Env.put ρ j v) a b)
    (H : Here c k A m ns sm env ρ) (hv : VR c m.X p xv) (hi : iterV p = some ps) (hlim : ps.length < LIM) (h : B.W (B.mapG tc f ps) m.σ Q)
    (hQ : ∀ D C n' out, m.X.h.get? C = none → D ≠ C → Left m n' D C out → Q out n'.σ → RR (.ref D) C (.ok .next) n'.s) :
    wpAny (model c.prog c.w) A (pyIter xv) (fun it s₂ => wpAny (model c.prog c.w) A (newList []) (fun acc s₃ => wpAny (model c.prog c.w) A (newFunctionEnv scope env.globals (clGo env scope.names []) [] env.qual none .none (some env)) (fun cenv s₄ =>
      codeAny (model c.prog c.w) A (.compStart (.ListComp elt [⟨.Name x px, iter, ifs, 0⟩] scope pos) 0 it acc { cenv with scope := relabel scope env }) (RR acc cenv.locals) s₄) NoE s₃) NoE s₂) NoE m.s := by
  have hcell : ∀ y ∈ scope.names, y.2 ≠ .cell := fun y hy hc => by
    obtain ⟨y, kd⟩ := y
    rcases S.names y kd hy with ⟨z, _⟩ | ⟨z, _⟩ | z <;> exact nomatch hc.symm.trans z
  refine snd_iter H.room.handled m.hX m.R hv hi fun I h' fp P Sx hI0 hIa hk It hS => ?_
  refine wpAny_newObj_type (wpAny_newFunctionEnv hcell (fun y hy => nomatch hy) (fun h₁ hns₁ hsb₁ => ?_) S.kind)
  exact comp_from S ht he hf htc H hlim h hI0 hIa hk It hS rfl rfl rfl hns₁ hsb₁ (hQ _ _)
end
end Mine
namespace Mine
open PySem PyProof.V PyProof.Rows
set_option autoImplicit false
set_option linter.unusedVariables false
set_option maxRecDepth 100000
variable {c : Cx} {X X' : Vw} {σ σ' σ₁ : St} {A : Around} {s s₁ : Shared}

noncomputable def Kept (c : Cx) (f : Value) : Prop := ∀ h : Heap, (∀ b o, c.h₀.get? b = some o → h.get? b = some o) → ∃ k, (k = Keeper.frame ∨ k = Keeper.machine ∨ k = Keeper.boundFrame) ∧ PySem.W.Looks (model c.prog c.w) h (keeperOf f) k
theorem kept_blt (b : Bi) : Kept c b.val := fun h _ => ⟨.machine, .inr (.inl rfl), PySem.W.Looks.of_pure (by cases b <;> rfl)⟩
theorem kept_id (id : String) : Kept c (.builtin id) := fun h _ => ⟨.machine, .inr (.inl rfl), PySem.W.Looks.of_pure rfl⟩
theorem kept_fn (F : Facts c) (f : Fn) : Kept c (.ref (c.fA f)) := fun h k => by
  obtain ⟨⟨o1, o2, o3, o4⟩, fd, ho, hc, hd⟩ := F.fnObj f
  simp only at hd
  subst hd
  refine ⟨.frame, .inl rfl, fun A Q E s k' q => ?_⟩
  unfold keeperOf
  exact wpAny_bind (wpAny_load (k' _ _ (k _ _ ho)) (wpAny_pure q))
theorem kept_cls (F : Facts c) (kk : Cl) : Kept c (.ref (c.cA kk)) := fun h k => by
  obtain ⟨nm, qn, N, bs, sn, sub, col, dd, k0, k1, k2, k3, k5, mN, hC, hN, _⟩ := (F.cls kk).ex
  refine ⟨.machine, .inr (.inl rfl), fun A Q E s k' q => ?_⟩
  have hC := k' _ _ (k _ _ hC)
  obtain ⟨hh, g, d, t, os⟩ := s
  have f1 := tc_lookup
  have hT : (⟨hh, g, d, t, os⟩ : Shared).TypeIs (.ref (c.cA kk)) "type" := ⟨_, hC, rfl⟩
  unfold keeperOf specialOf
  repeat (any_goals (first | assumption | with_reducible refine wpAny_loadPart_at hC ?_ | with_reducible refine wpAny_load' hC ?_ | wp_step))
  all_goals (rw [if_pos (by rfl)]; first | exact wpAny_pure q | exact q)

theorem star_ne {e : PySem.Expr} (h : isStar e = false) : e.ctorIdx ≠ 22 := fun z => by
  unfold isStar at h
  rw [z] at h
  cases h
theorem star_cons {e : PySem.Expr} {rest : List PySem.Expr} {env : PySem.Env} (h : isStar e = false) : starEach (e :: rest) env = (false, eval e env) :: starEach rest env := by
  cases e <;> first | rfl | cases h
theorem star_any {es : List PySem.Expr} {env : PySem.Env} {pos : Pos} (h : noStars es = true) : (backTo pos (starEach es env)).any (·.1) = false := by
  induction es with
  | nil => rfl
  | cons e r ih =>
    refine and_e h fun h1 h2 => ?_
    rw [star_cons (not_e h1)]
    exact ih h2
theorem evalArgs_es {M : Model} {f : Value} {es : List PySem.Expr} {env : PySem.Env} {pos : Pos} {E : Value → Shared → Prop} {Q : Args → Shared → Prop} (hs : noStars es = true) (h : wpAny M A (spliced (backTo pos (starEach es env))) (fun vs s' => Q ⟨vs, []⟩ s') E s) :
    wpAny M A (evalArgs f true (backTo pos (starEach es env)) []) Q E s := by
  cases es with
  | nil =>
    unfold evalArgs
    show wpAny M A (spliced [] >>= _) Q E s
    refine wpAny_bind (wpAny_mono h (fun vs s' h' => ?_) fun _ _ x => x)
    refine wpAny_bind (wpAny_pure ?_)
    refine wpAny_holding ?_
    exact wpAny_bind (wpAny_pure (wpAny_bind (wpAny_pure (wpAny_pure h'))))
  | cons e r =>
    refine and_e hs fun h1 _ => ?_
    rw [star_cons (not_e h1)] at h ⊢
    exact Calls.evalArgs_plain h
end Mine
namespace Mine
open PySem PyProof.V PyProof.Rows
set_option autoImplicit false
set_option linter.unusedVariables false
set_option maxRecDepth 100000
variable {c : Cx} {X X' : Vw} {σ σ' σ₁ : St} {A : Around} {s s₁ : Shared}
variable {m n : Now c}
noncomputable def CallsOk (c : Cx) (C : Fn → List PV → B.M PV) (k : Nat) : Prop :=
  ∀ (f : Fn) (args : List PV) (vs : List Value) (m : Now c) (A : Around) (Q : PV → St → Prop), B.W (C f args) m.σ Q → VRs c m.X args vs → Room A k → Wp A (call (.ref (c.fA f)) vs) m Q

theorem under_make {C : Addr} {vs : List Value} : (A.under (.builtin "type.__call__" ⟨.ref C :: vs, []⟩)).depth = A.depth + 1 ∧ (A.under (.builtin "type.__call__" ⟨.ref C :: vs, []⟩)).units ≤ A.units + 10 ∧ (A.under (.builtin "type.__call__" ⟨.ref C :: vs, []⟩)).handled = A.handled := by
  refine ⟨rfl, ?_, rfl⟩
  show A.units + (Code.builtin "type.__call__" ⟨.ref C :: vs, []⟩).cUnits ≤ A.units + 10
  have : (Code.builtin "type.__call__" ⟨.ref C :: vs, []⟩).cUnits ≤ 10 := Nat.le_of_ble_eq_true (by kernel_rfl)
  exact Nat.add_le_add_left this _
theorem Room.make {C : Addr} {vs : List Value} {k : Nat} (h : Room A (k + 1)) : Room (A.under (.builtin "type.__call__" ⟨.ref C :: vs, []⟩)) k := by
  obtain ⟨h1, h2, h3⟩ := under_make (A := A) (C := C) (vs := vs)
  have a := h.depth; have b := h.units
  exact ⟨h3.trans h.handled, by rw [h1]; with_reducible exact O.a26 (by assumption), by with_reducible exact O.a26f (by assumption) (by assumption)⟩
theorem Room.less {k : Nat} (h : Room A (k + 1)) : Room A k := ⟨h.handled, by have := h.depth; with_reducible exact O.a26a (by assumption), by have := h.units; with_reducible exact O.a26c (by assumption)⟩

noncomputable def Now.born (m : Now c) {h' : Heap} {ad : Addr × Addr} {o : PObj} {N : Addr → Prop} (t : Tok) (R' : Rel c ⟨putι m.X ad, fun b => m.X.Fz b ∨ N b, m.X.n + 1, h'⟩ (m.σ ++ [some o])) : Now c := ⟨⟨putι m.X ad, fun b => m.X.Fz b ∨ N b, m.X.n + 1, h'⟩, m.σ ++ [some o], sh m.s h' t, rfl, R'⟩
theorem vr_born {D : Addr × Addr} {N : Addr → Prop} {h' : Heap} : VR c ⟨putι m.X D, fun b => m.X.Fz b ∨ N b, m.X.n + 1, h'⟩ (.ref m.σ.length) (.ref D.1) := by
  rw [← m.R.len]
  exact ⟨Nat.lt_succ_self _, congrArg (fun q : Addr × Addr => Value.ref q.1) (if_pos rfl).symm⟩
theorem Ends.alloc {cur : Addr → Prop} {o : PObj} {h' : Heap} {t : Tok} {D : Addr} {Q : PV → St → Prop} (hk : ∀ b o, m.s.heap.get? b = some o → h'.get? b = some o) (hD : m.s.heap.get? D = none) (hb : ∃ o, h'.get? D = some o)
    (ho : ∀ X', Le m.X X' → X'.h = h' → ObjR c X' (D, D) o) (q : Q (.ref m.σ.length) (m.σ ++ [some o])) : Ends cur VN m Q (.ref D) (sh m.s h' t) := by
  have hk' : ∀ b o, m.X.h.get? b = some o → h'.get? b = some o := fun b o e => hk b o (m.hX ▸ e)
  have L : Le m.X ⟨putι m.X (D, D), fun b => m.X.Fz b ∨ (fun _ => False) b, m.X.n + 1, h'⟩ := ⟨Nat.le_succ _, fun i hi => if_neg (Nat.ne_of_lt hi), fun _ h => .inl h, fun b o _ e => hk' b o e⟩
  obtain ⟨R', N'⟩ := m.R.alloc (ad := (D, D)) (o := o) (fun _ => False) hk' (fun b z => z.elim) ⟨by rw [m.hX]; exact hD, hb⟩ id (ho _ L rfl)
  exact ⟨m.born t R', _, rfl, ⟨⟨h', t, rfl⟩, N'.wider fun _ f => f.elim⟩, vr_born, q⟩
theorem new_none : m.s.heap.get? m.s.heap.objs.size = none := Heap.get?_none_of_le (Nat.le_refl _)
theorem alloc_list {cur : Addr → Prop} {ps : List PV} {vs : List Value} {t : Tok} {Q : PV → St → Prop} (hv : VRs c m.X ps vs) (hl : ps.length ≤ 2 * LIM) (q : Q (.ref m.σ.length) (m.σ ++ [some (.list ps)])) :
    Ends cur VN m Q (.ref m.s.heap.objs.size) (sh m.s (m.s.heap.push { cls := .type "list", data := .seq vs.toArray }) t) :=
  Ends.alloc (o := .list ps) (fun b o e => Heap.get?_push_of_some _ e) new_none ⟨_, Heap.get?_push_size _ rfl⟩ (fun X' L e => ⟨rfl, hl, vs, e ▸ list_new rfl, VRs.le L _ _ hv⟩) q
theorem alloc_dict {cur : Addr → Prop} {t : Tok} {Q : PV → St → Prop} (hS : ∃ o, c.h₀.get? cStatics = some o) (q : Q (.ref m.σ.length) (m.σ ++ [some (.dict [])])) :
    Ends cur VN m Q (.ref m.s.heap.objs.size) (sh m.s (m.s.heap.push { cls := .type "dict", data := .dict #[] }) t) :=
  Ends.alloc (o := .dict []) (fun b o e => Heap.get?_push_of_some _ e) new_none ⟨_, Heap.get?_push_size _ rfl⟩ (fun X' L e => ⟨rfl, new_ne_sys m.hX m.R hS, Nat.zero_le _, [], e ▸ Heap.DictOf.new m.s.heap, rfl⟩) q

theorem snd_mlistOf {ps : List PV} {v : Value} {Q : PV → St → Prop} (hv : VR c m.X (.lst ps) v) (q : Q (.ref m.σ.length) (m.σ ++ [some (.list ps)])) : Wp A (call (.type "list") [v]) m Q := by
  refine hv.lst_e fun a vs f hl hn hvs => ?_
  obtain ⟨n, ho⟩ := (m.hX ▸ hl : m.s.heap.PlainList a vs.toArray)
  refine call_list_seq a (.inl rfl) ho rfl rfl (fun h' c' hk hn' => ?_) (by rw [List.size_toArray]; exact size_line hvs hn)
  exact Ends.alloc (t := m.s.toks) (o := .list ps) hk new_none ⟨_, hn'⟩ (fun X' L e => ⟨rfl, hn, vs, ⟨_, e ▸ hn'⟩, VRs.le L _ _ hvs⟩) q

theorem made_inst {h h' : Heap} {C x dx : Addr} (hm : Heap.MadeObj h h' x dx C) : dx ≠ x ∧ InstAt h' x dx C fun _ => none := by
  obtain ⟨o, hx, hc, hnc, hd⟩ := hm.inst
  have e := hm.dict o hx
  rcases hd with ⟨z, _⟩ | ⟨d', z, hne, hns⟩
  · cases e.symm.trans z
  · cases e.symm.trans z
    exact ⟨hne, o, hx, hc, hnc, e, hne, hns, fun y hy => absurd rfl hy⟩
theorem new_init {C : Fn → List PV → B.M PV} {k : Nat} {kk : Cl} {ps : List PV} {vs : List Value} {Q : PV → St → Prop} {h' : Heap} {x dx : Addr} (hC : CallsOk c C k) (hA : Room A (k + 1)) (hv : VRs c m.X ps vs) (h : B.kCallC C kk Q ps m.σ) (hm : Heap.MadeObj m.s.heap h' x dx (c.cA kk)) :
    wpAny (model c.prog c.w) (A.under (.builtin "type.__call__" ⟨.ref (c.cA kk) :: vs, []⟩)) (call (.ref (c.fA (.init kk))) (.ref x :: vs)) (fun r s' => r = .none ∧ Ends none' VN m Q (.ref x) s') NoE (sh m.s h' m.s.toks) := by
  obtain ⟨ndx, I⟩ := made_inst hm
  obtain ⟨R1, N1⟩ := m.R.alloc (h' := h') (ad := (x, dx)) (o := .inst kk []) (fun b => b = x) (fun b o e => hm.keeps b o (m.hX ▸ e)) (fun b e => ⟨e ▸ m.hX ▸ hm.newX, e ▸ I.elim fun o hx => ⟨o, hx.1⟩⟩) ⟨m.hX ▸ hm.newD, I.dict_at⟩ ndx ⟨.inr rfl, List.nodup_nil, _, I, trivial⟩
  have T : To none' m (m.born m.s.toks R1) := ⟨⟨_, _, rfl⟩, N1.wider fun _ z => z.elim⟩
  refine (hC (.init kk) (.ref m.σ.length :: ps) (.ref x :: vs) (m.born m.s.toks R1) _ _ h (VRs.cons vr_born (VRs.le T.le _ _ hv)) hA.make).sub fun v n' r t hv q => ?_
  revert hv
  exact B.IsNone_e q fun q hv => ⟨hv, Ends.to T (Ends.to t (Ends.ret (VR.le t.le _ _ vr_born) q))⟩
theorem snd_new {C : Fn → List PV → B.M PV} {k : Nat} {kk : Cl} {ps : List PV} {vs : List Value} {Q : PV → St → Prop} (F : Facts c) (hC : CallsOk c C k) (hA : Room A (k + 1)) (hv : VRs c m.X ps vs) (h : B.kCallC C kk Q ps m.σ) :
    Wp A (call (.ref (c.cA kk)) vs) m Q := by
  obtain ⟨nm, qn, N, bs, sn, sub, col, dd, k0, k1, k2, k3, k5, mN, hCo, hN, _, _, _, _, hi, _⟩ := (m.cls F.cls kk).ex
  obtain ⟨oI, fd, hfI, hfc, hfd⟩ := F.fnObj (.init kk)
  have hf := m.old hfI
  obtain ⟨X, σ, ⟨hh, g, d, t, os⟩, hX, R⟩ := m
  refine wpAny_call_obj_init PySem.F.objNew hCo hN hi hf hfc fun h' x dx hm => ?_
  exact new_init hC hA hv h hm

noncomputable def Mt.own : Mt → Bool
  | .append => false | .get => false | .setdefault => false | .glyph_class => true | .class_of => true | .next_lig => true
theorem own_of {mt : Mt} {k : Cl} {f : Fn} (h : methodOf k mt = some f) : mt.own = true := by cases mt <;> first | rfl | cases h
theorem Mt.not_object (m : Mt) (h : m.own = true) : typeLookup (.type "object") m.str = pure none := by
  cases m <;> first | (cases h; done) | (rw [typeLookup_type, builtinLookup_eq_fast]; kernel_rfl)
theorem Mt.not_at {m : Mt} (h : m.own = true) : m.str ∉ atNames := by
  cases m <;> first | (cases h; done) | decide +kernel
theorem InstAt.no_method {h : Heap} {a d C : Addr} {mA : PySem.Str → Option Value} {mt : Mt} (I : InstAt h a d C mA) (ho : mt.own = true) : mA mt.str = none := by
  obtain ⟨o, _, _, _, _, _, _, wi⟩ := I
  cases e : mA mt.str with
  | none => rfl
  | some v => exact absurd (wi mt.str (by rw [e]; exact nofun)) (Mt.not_at ho)
theorem meth_inst {mt : Mt} {k : Cl} {f : Fn} {a d : Addr} {mA : PySem.Str → Option Value} {pl : Sem Bool} {E : Value → Shared → Prop} {Q : Value × List Value → Shared → Prop} (F : Facts c) (I : InstAt m.X.h a d (c.cA k) mA) (hm : methodOf k mt = some f)
    (q : Q (.ref (c.fA f), [.ref a]) m.s) : wpAny (model c.prog c.w) A (getMethod (.ref a) mt.str pl) Q E m.s := by
  obtain ⟨nm, qn, N, bs, sn, sub, col, dd, k0, k1, k2, k3, k5, mN, hCo, hN, e1, e2, e3, _, _, e6⟩ := (m.cls F.cls k).ex
  obtain ⟨oI, fd, hfI, hfc, hfd⟩ := F.fnObj f
  have hf := m.old hfI
  have I' : m.s.heap.Inst a (c.cA k) mA := m.hX ▸ I.inst
  obtain ⟨X, σ, ⟨hh, g, d', t, os⟩, hX, R⟩ := m
  exact method_of hCo hN e1 e2 (e6 mt f hm) hf hfc (mt.not_object (own_of hm)) I' (I.no_method (own_of hm)) q

theorem meth_list {a : Addr} {xs : Array Value} {pl : Sem Bool} {E : Value → Shared → Prop} {Q : Value × List Value → Shared → Prop} (h : s.heap.PlainList a xs) (q : Q (.builtin "list.append", [.ref a]) s) :
    wpAny (model c.prog c.w) A (getMethod (.ref a) Mt.append.str pl) Q E s := by
  obtain ⟨n, ho⟩ := h
  exact Calls.getMethod_list_append ho rfl rfl q
theorem ty_get : typeOf (.builtin "dict.get") = pure (.type "method_descriptor") := by show builtinType _ = _; rw [builtinType_eq_fast]; kernel_rfl
theorem meth_get {a : Addr} {kvs : List (Int × Value)} {pl : Sem Bool} {E : Value → Shared → Prop} {Q : Value × List Value → Shared → Prop} (h : s.heap.DictOf (intKind c.prog c.w) a kvs) (q : Q (.builtin "dict.get", [.ref a]) s) :
    wpAny (model c.prog c.w) A (getMethod (.ref a) Mt.get.str pl) Q E s := getMethod_builtin h.mapOf.typeIs PySem.F.plainAttrs_dict PySem.F.slot_dict_get ty_get h.mapOf.noDict q
theorem meth_setdefault {a : Addr} {kvs : List (Int × Value)} {pl : Sem Bool} {E : Value → Shared → Prop} {Q : Value × List Value → Shared → Prop} (h : s.heap.DictOf (intKind c.prog c.w) a kvs) (q : Q (.builtin "dict.setdefault", [.ref a]) s) :
    wpAny (model c.prog c.w) A (getMethod (.ref a) Mt.setdefault.str pl) Q E s := getMethod_builtin h.mapOf.typeIs PySem.F.plainAttrs_dict PySem.F.slot_dict_setdefault PySem.F.type_dict_setdefault h.mapOf.noDict q
end Mine
namespace Mine
open PySem PyProof.V PyProof.Rows
set_option autoImplicit false
set_option linter.unusedVariables false
set_option maxRecDepth 100000
variable {c : Cx} {X X' : Vw} {σ σ' σ₁ : St} {A : Around} {s s₁ : Shared}

theorem slice_list {m : Now c} {value : PySem.Expr} {l h : Option PySem.Expr} {ps : List PV} {vs : List Value} {lo hi : PV} {a sl : Addr} {vl vu : Value} {pos : Pos} {Q : PV → St → Prop} (hl : m.s.heap.IsList a vs.toArray) (hn : ps.length ≤ 2 * LIM) (hvs : VRs c m.X ps vs) (hlo : VR c m.X lo vl) (hhi : VR c m.X hi vu) (hs : m.s.heap.IsSliceOf sl vl vu .none)
    (hr : B.M.Got ((sliceL ps lo hi).map .lst) m.σ Q) : Wp A (subscriptTail value (.Slice l h none pos) (.ref a) (.ref sl)) m Q := by
  refine B.M.Got_e hr fun r e q => ?_
  obtain ⟨rs, e2, rfl⟩ := map_some' e
  exact tail_any hl.typeIs slot_list_getitem.lookup (ofP (getItem_slice m.hX m.R hl hn hvs hs hlo hhi e2) q) rfl
theorem tuple_from {m : Now c} {value : PySem.Expr} {l h : Option PySem.Expr} {ps : List PV} {vs : List Value} {k : Int} {t : Tok} {a sl : Addr} {pos : Pos} {Q : PV → St → Prop} (hl : m.s.heap.IsTuple a vs.toArray) (hn : ps.length ≤ 2 * LIM) (hvs : VRs c m.X ps vs) (hs : m.s.heap.IsSliceOf sl (.int k t) .none .none)
    (hk : 1 ≤ k ∧ k ≤ ps.length) (q : Q (.tup (ps.drop k.toNat)) m.σ) : Wp A (subscriptTail value (.Slice l h none pos) (.ref a) (.ref sl)) m Q := by
  have hlen := hvs.length
  have lim := lim_le
  obtain ⟨k, rfl⟩ := Int.eq_ofNat_of_zero_le (Int.le_trans (by decide) hk.1)
  obtain ⟨hk1, hk2⟩ := hk
  refine tail_any (ops := [.ref sl, .ref a]) hl.typeIs PySem.F.slot_tuple_getitem.lookup (getItem_tuple_from (a := k) (u := t) hl hs (Int.ofNat_le.mp hk1) (by simp; omega) ?_ (by simp; with_reducible exact O.a30 (by assumption) (by assumption) (by assumption))) rfl
  have p := post_tuple (cur := none') (t := m.s.toks) m.hX m.R (hvs.drop k) (by simp; with_reducible exact O.a34l (by assumption))
  exact p.ends (fun _ _ z => z) q
theorem snd_slice {m : Now c} {value : PySem.Expr} {l h : Option PySem.Expr} {p lo hi : PV} {o vl vu : Value} {sl : Addr} {pos : Pos} {Q : PV → St → Prop} (ho : VR c m.X p o) (hlo : VR c m.X lo vl) (hhi : VR c m.X hi vu) (hs : m.s.heap.IsSliceOf sl vl vu .none)
    (hr : B.W (B.sliceV p lo hi) m.σ Q) : Wp A (subscriptTail value (.Slice l h none pos) o (.ref sl)) m Q := by
  cases p with
  | lst ps => exact ho.lst_e fun a vs f hl hn hvs => slice_list (m.hX ▸ hl).isList hn hvs hlo hhi hs hr
  | tup ps =>
    revert hlo hhi
    refine B.M.onInt_e hr fun k hr => ?_
    refine B.M.onNone_e hr fun hr hlo hhi => ?_
    revert hs
    cases hhi
    refine hlo.int_e fun t hs => ho.tup_e fun a vs f hl hn hvs => B.M.Got_e hr fun r e q => ?_
    obtain ⟨hk, rfl⟩ := if_some' e
    exact tuple_from (m.hX ▸ hl) hn hvs hs hk q
  | ref i =>
    refine ho.ref_e (B.M.There_e hr fun o lv hr => ?_)
    revert lv
    refine B.M.onList_e hr fun ps hr lv => ?_
    exact (m.R.live i _ lv).2.list_e fun e hn vs n hl hvs => e ▸ slice_list (m.hX ▸ PySem.IsL.isList (n := n) hl) hn hvs hlo hhi hs hr
  | _ => exact hr.elim

noncomputable def prs (env : PySem.Env) (pos : Pos) : List (Option PySem.Expr) → List PySem.Expr → List (Sem Value × Sem Value)
  | some k :: ks, v :: vs => (eval k env, do let x ← eval v env; standAt pos; pure x) :: prs env pos ks vs
  | _, _ => []
theorem prs_shape {ns : Names} (env : PySem.Env) (pos : Pos) (keys : List (Option PySem.Expr)) : ∀ (ks : List Int) (es : List PySem.Expr), all2 (chkKey ns) keys ks = true → es.length = keys.length →
    ((evalEachOpt keys env).zip ((evalEach es env).map fun v => do let x ← v; standAt pos; pure x) = (prs env pos keys es).map fun p => (some p.1, p.2)) ∧ (prs env pos keys es).length = keys.length := by
  induction keys with
  | nil => exact fun ks es _ _ => ⟨rfl, rfl⟩
  | cons k keys ih =>
    intro ks es h hl
    cases es with
    | nil => cases hl
    | cons e es =>
      cases k with
      | none =>
        revert h
        exact fun h => all2_cons (P := fun _ => _) h fun b bs h _ => nomatch h
      | some k => exact all2_cons (P := fun _ => _) h fun b bs _ h => (ih bs es h (Nat.succ.inj hl)).elim fun a b => ⟨congrArg (List.cons _) a, congrArg Nat.succ b⟩
end Mine
namespace Mine
open PySem PyProof.V PyProof.Rows
set_option autoImplicit false
set_option linter.unusedVariables false
set_option maxRecDepth 100000
variable {c : Cx} {A : Around} {m n : Now c}

noncomputable def SE (c : Cx) (C : Fn → List PV → B.M PV) (k n : Nat) : Prop := ∀ (ns : Names) (sm : Slots) (e : PySem.Expr) (p : PE), chkE n ns sm e p = true → SE1 c C k ns sm e p
noncomputable def ST1 (c : Cx) (C : Fn → List PV → B.M PV) (k : Nat) (ns : Names) (sm : Slots) (e : PySem.Expr) (p : PE) : Prop :=
  ∀ (m : Now c) (A : Around) (env : PySem.Env) (ρ : Mine.Env) (Q : PV → St → Prop), Here c k A m ns sm env ρ → B.W (B.evalE C p ρ) m.σ Q → (∀ r σ', Q r σ' → truth r ≠ none) →
    wpAny (model c.prog c.w) A (isTrue e env (eval e env)) (Ends none' TN m Q) NoE m.s
noncomputable def ST (c : Cx) (C : Fn → List PV → B.M PV) (k n : Nat) : Prop := ∀ (ns : Names) (sm : Slots) (e : PySem.Expr) (p : PE), chkE n ns sm e p = true → ST1 c C k ns sm e p

theorem truth_e {t : Option Bool} {P1 P2 R : Prop} (h : B.WT t P1 P2) (q1 : t = some true → P1 → R) (q2 : t = some false → P2 → R) : R := by
  cases t with
  | none => exact h.elim
  | some b => cases b; exact q2 rfl h; exact q1 rfl h
section
variable {C : Fn → List PV → B.M PV} {k n : Nat} {ns : Names} {sm : Slots} {env : PySem.Env} {ρ : Mine.Env}
theorem snd_args (ihE : SE c C k n) {pos : Pos} (es : List PySem.Expr) : ∀ (ps : List PE) (m : Now c) (Q : List PV → St → Prop), noStars es = true → all2 (chkE n ns sm) es ps = true →
    Here c k A m ns sm env ρ → B.W (B.evalL C ps ρ) m.σ Q → wpAny (model c.prog c.w) A (spliced (backTo pos (starEach es env))) (Ends none' VNs m Q) NoE m.s := by
  induction es with
  | nil =>
    intro ps m Q _ hc H
    exact all2_nil hc fun h => wpAny_items_nil (Ends.ret VRs.nil h)
  | cons e es ih =>
    intro ps m Q hs hc H
    refine all2_cons hc fun p ps c1 c2 h => and_e hs fun h1 h2 => ?_
    refine wpAny_items_cons ((ihE _ _ _ _ c1 m A env ρ (B.kL1 C ps ρ Q) H h).sub fun v₁ n₁ r t₁ g₁ h => ?_) (star_cons (not_e h1))
    exact sub (ih ps n₁ (B.kL2 r Q) h2 c2 (H.to t₁) h) fun v₂ n₂ r₂ t₂ g₂ h => Ends.to (t₁.trans t₂) (Ends.ret (VRs.cons (VR.le t₂.le _ _ g₁) g₂) h)

theorem snd_and (ihE : SE c C k n) {pos : Pos} (es : List PySem.Expr) : ∀ (ps : List PE) (m : Now c) (Q : PV → St → Prop), all2 (chkE n ns sm) es ps = true →
    Here c k A m ns sm env ρ → B.W (B.evalAnd C ps ρ) m.σ Q → Wp A (boolOp pos .And (evalEach es env)) m Q := by
  induction es with
  | nil =>
    intro ps m Q hc H
    exact all2_nil hc fun h => h.elim
  | cons e es ih =>
    intro ps m Q hc H
    refine all2_cons hc fun p ps c1 hc => ?_
    cases es with
    | nil => exact all2_nil hc fun h => ihE _ _ _ _ c1 m A env ρ Q H h
    | cons e2 es =>
      refine all2_cons (P := fun ps => B.W (B.evalAnd C (p :: ps) ρ) m.σ Q → _) hc fun p2 ps c2 c3 h => ?_
      show wpAny _ _ (do
        let v ← eval e env
        standAt pos
        let t ← holding [v] (truthy v)
        match BoolOp.And, t with
        | .And, false | .Or, true => pure v
        | _, _ => boolOp pos .And (evalEach (e2 :: es) env)) _ _ m.s
      refine wpAny_bind ((ihE _ _ _ _ c1 m A env ρ (B.kAnd C (p2 :: ps) ρ Q) H h).sub fun v n₁ r t g h => wpAny_bind (wpAny_standAt (wpAny_bind (wpAny_holding ?_))))
      refine truth_e h (fun e h => snd_truth g e ?_) fun e h => snd_truth g e (wpAny_pure (Ends.to t (Ends.ret g h)))
      exact fin t (ih (p2 :: ps) n₁ Q (by show (_ && _) = true; rw [c2, c3]; rfl) (H.to t) h)
theorem snd_or (ihE : SE c C k n) {pos : Pos} (es : List PySem.Expr) : ∀ (ps : List PE) (m : Now c) (Q : PV → St → Prop), all2 (chkE n ns sm) es ps = true →
    Here c k A m ns sm env ρ → B.W (B.evalOr C ps ρ) m.σ Q → Wp A (boolOp pos .Or (evalEach es env)) m Q := by
  induction es with
  | nil =>
    intro ps m Q hc H
    exact all2_nil hc fun h => h.elim
  | cons e es ih =>
    intro ps m Q hc H
    refine all2_cons hc fun p ps c1 hc => ?_
    cases es with
    | nil => exact all2_nil hc fun h => ihE _ _ _ _ c1 m A env ρ Q H h
    | cons e2 es =>
      refine all2_cons (P := fun ps => B.W (B.evalOr C (p :: ps) ρ) m.σ Q → _) hc fun p2 ps c2 c3 h => ?_
      show wpAny _ _ (do
        let v ← eval e env
        standAt pos
        let t ← holding [v] (truthy v)
        match BoolOp.Or, t with
        | .And, false | .Or, true => pure v
        | _, _ => boolOp pos .Or (evalEach (e2 :: es) env)) _ _ m.s
      refine wpAny_bind ((ihE _ _ _ _ c1 m A env ρ (B.kOr C (p2 :: ps) ρ Q) H h).sub fun v n₁ r t g h => wpAny_bind (wpAny_standAt (wpAny_bind (wpAny_holding ?_))))
      refine truth_e h (fun e h => snd_truth g e (wpAny_pure (Ends.to t (Ends.ret g h)))) fun e h => snd_truth g e ?_
      exact fin t (ih (p2 :: ps) n₁ Q (by show (_ && _) = true; rw [c2, c3]; rfl) (H.to t) h)

theorem snd_allAnd (ihT : ST c C k n) (es : List PySem.Expr) : ∀ (ps : List PE) (m : Now c) (Q : PV → St → Prop), all2 (chkE n ns sm) es ps = true →
    Here c k A m ns sm env ρ → (∀ r σ', Q r σ' → truth r ≠ none) → B.W (B.evalAnd C ps ρ) m.σ Q → wpAny (model c.prog c.w) A (allTrue .And es env) (Ends none' TN m Q) NoE m.s := by
  induction es with
  | nil =>
    intro ps m Q hc H _
    exact all2_nil hc fun h => h.elim
  | cons e es ih =>
    intro ps m Q hc H hQ
    refine all2_cons hc fun p ps c1 hc => ?_
    cases es with
    | nil =>
      refine all2_nil hc fun h => wpAny_allTrue_And_cons (sub (ihT _ _ _ _ c1 m A env ρ Q H h hQ) fun b n₁ r t g h => ?_)
      cases b with
      | false => exact Ends.to t (Ends.ret g h)
      | true => exact wpAny_allTrue_And_nil (Ends.to t (Ends.ret g h))
    | cons e2 es =>
      refine all2_cons (P := fun ps => B.W (B.evalAnd C (p :: ps) ρ) m.σ Q → _) hc fun p2 ps c2 c3 h => ?_
      refine wpAny_allTrue_And_cons (sub (ihT _ _ _ _ c1 m A env ρ (B.kAnd C (p2 :: ps) ρ Q) H h fun r σ' h => B.WT.any h) fun b n₁ r t g h => ?_)
      cases b with
      | false => exact Ends.to t (Ends.ret g (B.WT.f g h))
      | true => exact fin t (ih (p2 :: ps) n₁ Q (by show (_ && _) = true; rw [c2, c3]; rfl) (H.to t) hQ (B.WT.t g h))
theorem snd_allOr (ihT : ST c C k n) (es : List PySem.Expr) : ∀ (ps : List PE) (m : Now c) (Q : PV → St → Prop), all2 (chkE n ns sm) es ps = true →
    Here c k A m ns sm env ρ → (∀ r σ', Q r σ' → truth r ≠ none) → B.W (B.evalOr C ps ρ) m.σ Q → wpAny (model c.prog c.w) A (allTrue .Or es env) (Ends none' TN m Q) NoE m.s := by
  induction es with
  | nil =>
    intro ps m Q hc H _
    exact all2_nil hc fun h => h.elim
  | cons e es ih =>
    intro ps m Q hc H hQ
    refine all2_cons hc fun p ps c1 hc => ?_
    cases es with
    | nil =>
      refine all2_nil hc fun h => wpAny_allTrue_Or_cons (sub (ihT _ _ _ _ c1 m A env ρ Q H h hQ) fun b n₁ r t g h => ?_)
      cases b with
      | true => exact Ends.to t (Ends.ret g h)
      | false => exact wpAny_allTrue_Or_nil (Ends.to t (Ends.ret g h))
    | cons e2 es =>
      refine all2_cons (P := fun ps => B.W (B.evalOr C (p :: ps) ρ) m.σ Q → _) hc fun p2 ps c2 c3 h => ?_
      refine wpAny_allTrue_Or_cons (sub (ihT _ _ _ _ c1 m A env ρ (B.kOr C (p2 :: ps) ρ Q) H h fun r σ' h => B.WT.any h) fun b n₁ r t g h => ?_)
      cases b with
      | true => exact Ends.to t (Ends.ret g (B.WT.t g h))
      | false => exact fin t (ih (p2 :: ps) n₁ Q (by show (_ && _) = true; rw [c2, c3]; rfl) (H.to t) hQ (B.WT.f g h))
end
end Mine
namespace Mine
open PySem PyProof.V PyProof.Rows
set_option autoImplicit false
set_option linter.unusedVariables false
set_option maxRecDepth 100000
variable {c : Cx} {A : Around} {m n : Now c}

theorem not_set {e : PySem.Expr} (h : isSet e = false) (env : PySem.Env) : ∀ x, foldedSetIterable e env x = pure x := by
  intro x; cases e <;> first | rfl | cases h

section
variable {C : Fn → List PV → B.M PV} {k n : Nat} {ns : Names} {sm : Slots} {env : PySem.Env} {ρ : Mine.Env}
theorem ts_none : TS1 c C k ns sm [] none := fun m A env ρ a b Q H h => wpAny_tests_nil (Ends.ret rfl h)
theorem ts_some {e : PySem.Expr} {p : PE} (ihT : ST1 c C k ns sm e p) : TS1 c C k ns sm [e] (some p) := fun m A env ρ a b Q H h => by
  refine wpAny_tests_one (sub (ihT m A env ρ (fun t σ => B.WT (truth t) (B.W a σ Q) (B.W b σ Q)) H h fun r σ' h => B.WT.any h) fun ok n r t g h => ?_)
  cases ok with
  | true => exact Ends.to t (Ends.ret rfl (B.WT.t g h))
  | false => exact Ends.to t (Ends.ret rfl (B.WT.f g h))

noncomputable def kG (tc : Option (PV → B.M PV)) (f : PV → B.M PV) (Q : PV → St → Prop) (s : PV) (σ : St) : Prop := B.M.Got (iterV s) σ fun vs σ => B.Fits vs.length (B.W (B.mapG tc f vs) σ (B.kLst Q))
structure Compr (c : Cx) (C : Fn → List PV → B.M PV) (k : Nat) (ns : Names) (sm : Slots) (ρ : Mine.Env) (e1 : PySem.Expr) (x : PySem.Str) (j : Nat) (e2 : PySem.Expr) (ifs : List PySem.Expr) (scope : Scope) (it : PE) (tc : Option (PV → B.M PV)) (f : PV → B.M PV) (pc : Option PE) (pe : PE) : Prop where
  notSet : isSet e2 = false
  sc : ScopeOk ns sm scope x j
  iter : SE1 c C k ns sm e2 it
  tests : TS1 c C k (relNs ns scope.names) ((x, j) :: sm) ifs pc
  elt : SE1 c C k (relNs ns scope.names) ((x, j) :: sm) e1 pe
  isF : ∀ v, f v = B.evalE C pe (Mine.Env.put ρ j v)
  isT : ∀ v (a b : B.M (List PV)), B.tstM tc v a b = tstE C pc (Mine.Env.put ρ j v) a b
variable {e1 e2 : PySem.Expr} {x : PySem.Str} {px pos : Pos} {j : Nat} {scope : Scope} {ifs : List PySem.Expr} {tc : Option (PV → B.M PV)} {f : PV → B.M PV} {pc : Option PE} {pe it : PE} {Q : PV → St → Prop}
theorem free_cells (S : ScopeOk ns sm scope x j) (H : Here c k A m ns sm env ρ) : ∀ n, (n, NameKind.free) ∈ scope.names → ∃ a, env.cells.lookup n = some a := fun n hn => by
  rcases S.names n _ hn with ⟨z, _⟩ | ⟨_, z, _⟩ | z
  · cases z
  · exact (H.ok.cells n (.inl ((H.kindOf n).trans z))).elim fun a h => h.elim fun u g => ⟨a, g.1⟩
  · cases z
theorem loc_names (S : ScopeOk ns sm scope x j) : ∀ y ∈ scope.names, y.2 = .local → scope.names.lookup y.1 = some .local := fun y hy hl => by
  obtain ⟨y, kd⟩ := y
  cases hl
  rcases S.names y _ hy with ⟨_, _, z⟩ | ⟨z, _⟩ | z
  · exact z
  · cases z
  · cases z
theorem comp_walk {RR : Value → Addr → Result → Shared → Prop} (K : Compr c C k ns sm ρ e1 x j e2 ifs scope it tc f pc pe) (H : Here c k A m ns sm env ρ) (h : B.W (B.evalE C it ρ) m.σ (kG tc f Q))
    (hQ : ∀ D C n out, m.X.h.get? C = none → D ≠ C → Left m n D C out → Q (.lst out) n.σ → RR (.ref D) C (.ok .next) n.s) :
    wpAny (model c.prog c.w) A (eval e2 env) (fun xv s₁ => wpAny (model c.prog c.w) A (pyIter xv) (fun it s₂ => wpAny (model c.prog c.w) A (newList []) (fun acc s₃ => wpAny (model c.prog c.w) A (newFunctionEnv scope env.globals (clGo env scope.names []) [] env.qual none .none (some env)) (fun cenv s₄ =>
      codeAny (model c.prog c.w) A (.compStart (.ListComp e1 [⟨.Name x px, e2, ifs, 0⟩] scope pos) 0 it acc { cenv with scope := relabel scope env }) (RR acc cenv.locals) s₄) NoE s₃) NoE s₂) NoE s₁) NoE m.s :=
  (K.iter m A env ρ (kG tc f Q) H h).sub fun xv n₁ q t g h => B.M.Got_e h fun ps hi h => B.Fits_e h fun hlim h =>
    comp_run K.sc K.tests K.elt K.isF K.isT (H.to t) g hi hlim h fun D C n out c0 hne l q => hQ D C n out (t.nx.unborn c0) hne ⟨t.trans l.to, l.oC, l.nm, l.val⟩ q
theorem Left.touch {D C' : Addr} {out : List PV} {n : Now c} {h' : Heap} {t : Tok} (l : Left m n D C' out) (c0 : m.X.h.get? C' = none) (hs : Heap.SameBut C' n.s.heap h') (q : Q (.lst out) n.σ) : Ends none' VN m Q (.ref D) (sh n.s h' t) :=
  ⟨n.touch l.oC h' t fun b ob hb e => (hs.2 b hb).trans (n.hX ▸ e), .lst out, rfl, l.to.touch c0, VR.le Le.touch _ _ l.val, q⟩
theorem snd_comp (K : Compr c C k ns sm ρ e1 x j e2 ifs scope it tc f pc pe) (H : Here c k A m ns sm env ρ) (h : B.W (B.evalE C it ρ) m.σ (kG tc f Q)) : Wp A (eval (.ListComp e1 [⟨.Name x px, e2, ifs, 0⟩] scope pos) env) m Q := by
  show wpAny _ _ _ _ _ _
  rw [eval_ListComp]
  refine wpAny_comprehension_free (use := none) rfl (not_set K.notSet env) (closure_is (free_cells K.sc H)) K.sc.kind (loc_names K.sc) ?_
  exact comp_walk (RR := fun acc C' => compPost (model c.prog c.w) A NoE none (Ends none' VN m Q) acc C') K H h fun D C' n out c0 hne l q => l.nm.elim fun g hg => ⟨g, n.hX ▸ hg, fun h' hs' => l.touch c0 hs' q⟩

theorem snd_comp_use {y : PySem.Str} {py spos : Pos} {R : Flow → Shared → Prop} (K : Compr c C k ns sm ρ e1 x j e2 ifs scope it tc f pc pe) (H : Here c k A m ns sm env ρ) (h : B.W (B.evalE C it ρ) m.σ (kG tc f Q))
    (hsw : swapsWith (.ListComp e1 [⟨.Name x px, e2, ifs, 0⟩] scope pos) (some (.Name y py)) spos.line env = pure true)
    (hQ : ∀ D C' n out, m.X.h.get? C' = none → D ≠ C' → Left m n D C' out → Q (.lst out) n.σ →
      wpAny (model c.prog c.w) A (storeName env y (.ref D)) (fun _ s'' => ∃ g, s''.heap.Ns C' g ∧ ∀ h', Heap.SameBut C' s''.heap h' → R .next { s'' with heap := h' }) NoE n.s) :
    wpAny (model c.prog c.w) A (exec (.Assign [.Name y py] (.ListComp e1 [⟨.Name x px, e2, ifs, 0⟩] scope pos) spos) env) R NoE m.s := by
  rw [exec_Assign_Name_used _ _ _ _ hsw]
  refine wpAny_bind (wpAny_standAt (wpAny_bind ?_))
  show wpAny _ A (do let _ ← comprehension (.ListComp e1 [⟨.Name x px, e2, ifs, 0⟩] scope pos) scope env _ (newList []) false (eval e2 env) (some (assign (.Name y py) env))) _ _ m.s
  refine wpAny_bind (wpAny_mono (wpAny_comprehension_free (use := some (assign (.Name y py) env)) (Q := fun _ s' => R .next s') rfl (not_set K.notSet env) (closure_is (free_cells K.sc H)) K.sc.kind (loc_names K.sc) ?_) (fun _ s' hq => wpAny_pure (wpAny_pure hq)) fun _ _ z => z)
  refine comp_walk (RR := fun acc C' => compPost (model c.prog c.w) A NoE (some (assign (.Name y py) env)) (fun _ s' => R .next s') acc C') K H h fun D C' n out c0 hne l q => ?_
  exact wpAny_assign_Name (hQ D C' n out c0 hne l q)
end

section
variable {C : Fn → List PV → B.M PV} {k n : Nat} {ns : Names} {sm : Slots} {env : PySem.Env} {ρ : Mine.Env}
theorem intIs_e {v : PV} {i : Int} {P : PV → Prop} (h : intIs v i = true) (q : P (.int i)) : P v := by
  cases v with
  | int j => exact eq_of_beq h ▸ q
  | _ => cases h
theorem key_eval {e : PySem.Expr} {i : Int} (F : Facts c) (hc : chkKey ns (some e) i = true) (H : Here c k A m ns sm env ρ) {Q : Value → Shared → Prop} (q : ∀ t t', Q (.int i t) (sh m.s m.s.heap t')) : wpAny (model c.prog c.w) A (eval e env) Q NoE m.s := by
  refine or_e hc (fun h => exC_e h fun kd pos => wpAny_Constant_int (q _ _)) fun h => exName_e h fun x pos h => ?_
  obtain ⟨g, _, hg⟩ := List.any_eq_true.mp h
  obtain ⟨mg, mb, NF⟩ := F.names
  obtain ⟨v, hv, hr⟩ := NF.gc g
  refine and_e hg fun h1 h2 => snd_glob H h1 NF.g hv ?_
  revert hr
  exact intIs_e (P := fun v' => VR c (start c) v' v → Q v m.s) h2 fun hr => hr.int_e fun t => q t m.s.toks
noncomputable def VP (c : Cx) (ks : List Int) (n : Now c) (rs : List PV) (vs : List (Value × Value)) : Prop := ∃ kvs, Carries (intKind c.prog c.w) vs kvs ∧ VRk c n.X (ks.zip rs) kvs
theorem snd_pairs (F : Facts c) (ihE : SE c C k n) {pos : Pos} (keys : List (Option PySem.Expr)) : ∀ (ks : List Int) (es : List PySem.Expr) (ps : List PE) (m : Now c) (Q : List PV → St → Prop),
    all2 (chkKey ns) keys ks = true → es.length = keys.length → all2 (chkE n ns sm) es ps = true → Here c k A m ns sm env ρ → B.W (B.evalL C ps ρ) m.σ Q →
    wpAny (model c.prog c.w) A (evalPairs (prs env pos keys es)) (Ends none' (VP c ks) m Q) NoE m.s := by
  induction keys with
  | nil =>
    intro ks es ps m Q hk hl hc H
    cases es with
    | cons => cases hl
    | nil => exact all2_nil hc fun h => all2_nil (P := fun ks => wpAny _ _ _ (Ends none' (VP c ks) m Q) _ _) hk (evalPairs_nil (Ends.ret ⟨[], trivial, rfl⟩ h))
  | cons ke keys ih =>
    intro ks es ps m Q hk hl hc H
    cases es with
    | nil => cases hl
    | cons e es =>
      refine all2_cons hc fun p ps c1 c2 h => all2_cons (P := fun ks => wpAny _ _ _ (Ends none' (VP c ks) m Q) _ _) hk fun i ks k1 k2 => ?_
      cases ke with
      | none => cases k1
      | some ke =>
        refine evalPairs_cons (key_eval F k1 H fun t t' => wpAny_bind ((ihE _ _ _ _ c1 (m.tok t') A env ρ (B.kL1 C ps ρ Q) (H.to To.tok) h).sub fun v₁ n₁ r t₁ g₁ h => wpAny_bind (wpAny_standAt (wpAny_pure ?_))))
        refine sub (ih ks es ps n₁ (B.kL2 r Q) k2 (Nat.succ.inj hl) c2 (H.to (To.tok.trans t₁)) h) fun v₂ n₂ r₂ t₂ g₂ h => Ends.to ((To.tok.trans t₁).trans t₂) ?_
        exact g₂.elim fun kvs g => Ends.ret (r := r :: r₂) ⟨(i, v₁) :: kvs, ⟨int_is i t, rfl, g.1⟩, VRk.cons (VR.le t₂.le _ _ g₁) g.2⟩ h

theorem all2_len {α β : Type} {f : α → β → Bool} (as : List α) : ∀ bs : List β, all2 f as bs = true → bs.length = as.length := by
  induction as with
  | nil => exact fun bs h => all2_nil h rfl
  | cons a as ih => exact fun bs h => all2_cons h fun b bs _ h => congrArg Nat.succ (ih bs h)
theorem dict_len {ks : List Int} {rs : List PV} (h : ks.length ≤ 15) : (kvPutAll [] (ks.zip rs)).length ≤ 2 * LIM := by
  refine Nat.le_trans (kvPutAll_len (qs := ks.zip rs) (ps := [])) ?_
  rw [List.length_zip, List.length_nil, Nat.zero_add]
  exact Nat.le_trans (Nat.min_le_left _ _) (Nat.le_trans h (by decide))
theorem dict_done {ks : List Int} {rs : List PV} {kvs : List (Int × Value)} {D : Addr} {h' : Heap} {t : Tok} {Q : PV → St → Prop} {m₁ : Now c} (T : To none' m m₁) (hD0 : m.X.h.get? D = none) (oD : Out m₁.X m₁.σ D) (ns : D ≠ sysModules) (hk : ks.length ≤ 15) (hr : VRk c m₁.X (ks.zip rs) kvs)
    (hd' : h'.DictOf (intKind c.prog c.w) D (merged [] kvs)) (hs' : Heap.SameBut D m₁.s.heap h') (q : Q (.dct (kvPutAll [] (ks.zip rs))) m₁.σ) : Ends none' VN m Q (.ref D) (sh m₁.s h' t) := by
  have hk' : ∀ b o, b ≠ D → m₁.X.h.get? b = some o → h'.get? b = some o := fun b o hb e => (hs'.2 b hb).trans (m₁.hX ▸ e)
  have oD' : Out (m₁.touch oD h' t hk').X m₁.σ D := ⟨dictOf_born hd', oD.2⟩
  refine ⟨(m₁.touch oD h' t hk').addFz oD', _, rfl, (T.touch hD0).addFz hD0, ?_, q⟩
  exact VR.dct_i (.inr rfl) ns hd' (dict_len hk) (VRk.putAll (ps := []) (kvs := []) rfl (VRk.le Le.addFz _ _ (VRk.le Le.touch _ _ hr)) List.nodup_nil)
theorem snd_dict {keys : List (Option PySem.Expr)} {ks : List Int} {es : List PySem.Expr} {ps : List PE} {pos : Pos} {Q : PV → St → Prop} (F : Facts c) (ihE : SE c C k n) (hk : all2 (chkKey ns) keys ks = true) (hl : es.length = keys.length) (hlen : keys.length ≤ 15)
    (hc : all2 (chkE n ns sm) es ps = true) (H : Here c k A m ns sm env ρ) (h : B.W (B.evalL C ps ρ) m.σ (B.kDict ks Q)) : Wp A (eval (.Dict keys es pos) env) m Q := by
  have hD0 : m.X.h.get? m.s.heap.objs.size = none := by rw [m.hX]; exact new_none
  have hdn : (m.s.heap.push { cls := .type "dict", data := .dict #[] }).DictOf (intKind c.prog c.w) m.s.heap.objs.size [] := Heap.DictOf.new m.s.heap
  have hns := new_ne_sys m.hX m.R F.sys
  have hkl := all2_len _ _ hk
  have oD : Out (m.grow (m.s.heap.push { cls := .type "dict", data := .dict #[] }) fun b o e => Heap.get?_push_of_some _ e).X m.σ m.s.heap.objs.size := ⟨dictOf_born hdn, dead_fz m.R hD0, dead_mut m.R hD0⟩
  cases keys with
  | nil =>
    cases es with
    | cons => cases hl
    | nil =>
      revert h
      refine all2_nil hc (all2_nil (P := fun ks => B.W (B.evalL C [] ρ) m.σ (B.kDict ks Q) → _) hk fun h => ?_)
      exact wpAny_Dict_empty ((post_push (t := m.s.toks) (cur := none') (P := fun X => VR c X (.dct []) (.ref m.s.heap.objs.size)) m.hX m.R rfl fun L => VR.dct_i (.inr rfl) hns hdn (Nat.zero_le _) rfl).ends (fun _ _ z => z) h)
  | cons k1 kr =>
    obtain ⟨hsh, hpl⟩ := prs_shape (ns := ns) env pos (k1 :: kr) ks es hk hl
    refine wpAny_Dict_pairs (knd := intKind c.prog c.w) hsh (fun z => by rw [z] at hpl; cases hpl) (by rw [hpl]; exact hlen) ?_
    refine sub (snd_pairs F ihE (k1 :: kr) ks es ps (m.grow _ fun b o e => Heap.get?_push_of_some _ e) (B.kDict ks Q) hk hl hc (H.to To.grow) h) fun vs n₁ rs t g h => g.elim fun kvs g => ⟨kvs, g.1, ?_, fun h' hd' hs' => ?_⟩
    · obtain ⟨o, es', ep, ho, r⟩ := hdn
      exact ⟨o, es', ep, n₁.hX ▸ t.nx.keep _ o ho oD.2.2 id, r⟩
    · exact dict_done (To.grow.trans t) hD0 (oD.to t) hns (hkl ▸ hlen) g.2 hd' hs' h
end
end Mine
namespace Mine
open PySem PyProof.V PyProof.Rows
set_option autoImplicit false
set_option linter.unusedVariables false
set_option maxRecDepth 100000
variable {c : Cx} {A : Around} {m n : Now c} {s : Shared}

theorem base_ok {e : PySem.Expr} (h : attrOk e = true) (n : PySem.Str) (env : PySem.Env) (whole : Sem Value) : attributeBase e n env whole = whole := by
  refine or_e h (fun h => ?_) fun h => exCall_e h fun f es kw pos h => ?_
  · cases e <;> first | rfl | cases h
  · refine or_e h (fun h => ?_) fun h => exName_e h fun x np hx => ?_
    · cases es with
      | nil => cases h
      | cons => cases f <;> rfl
    · cases es with
      | cons => rfl
      | nil => cases kw with
        | cons => rfl
        | nil => exact if_pos (by rw [hx]; rfl)
theorem release_ {M : Model} {vs keep : List Value} {E : Value → Shared → Prop} {Q : Unit → Shared → Prop} (h : Q () s) : wpAny M A (release vs keep) Q E s := fun Γ p hΓ => by rw [PySem.Sem.wp_release]; exact h
theorem room_units {k : Nat} (h : Room A k) : A.units + 65 < cLine := by have := h.units; with_reducible exact O.a26g (by assumption)

theorem few_ok {es : List PySem.Expr} {env : PySem.Env} {pos : Pos} (hs : noStars es = true) (hl : es.length < 30) : methodCallForm (es.length + ([] : List Keyword).length) (backTo pos (starEach es env)) (backToKw pos (keywordEach [] env)) = true := by
  unfold methodCallForm
  have : (backTo pos (starEach es env)).all (fun x => !x.1) = true := by
    have h := star_any (env := env) (pos := pos) hs
    rw [List.any_eq_false] at h
    rw [List.all_eq_true]
    intro x hx
    simpa using h x hx
  rw [this]
  exact decide_eq_true hl

theorem meth_call {o : PySem.Expr} {name : PySem.Str} {apos pos : Pos} {es : List PySem.Expr} {env : PySem.Env} {E : Value → Shared → Prop} {Q : Value → Shared → Prop} (hb : attrOk o = true) (hl : apos.endLine = pos.line) (hs : noStars es = true) (hlen : es.length < 30)
    (h : wpAny (model c.prog c.w) A (eval o env) (fun ov s₁ => ∀ pl : Sem Bool, wpAny (model c.prog c.w) A (getMethod ov name pl) (fun fm s₂ => wpAny (model c.prog c.w) A (callWith pos fm.1 fm.2 (backTo pos (starEach es env)) []) Q E s₂) E s₁) E s) :
    wpAny (model c.prog c.w) A (eval (.Call (.Attribute o name apos) es [] pos) env) Q E s := by
  rw [arm_eval_Call, base_ok hb]
  refine wpAny_bind (wpAny_mono h (fun ov s₁ h₁ => ?_) fun _ _ e => e)
  refine wpAny_bind (wpAny_standAt ?_)
  unfold methodCall
  have hf := few_ok (env := env) (pos := pos) hs hlen
  rw [hf]
  have hpos : methodCallPos true o env apos pos = pure pos := by unfold methodCallPos; simp [hl]
  refine wpAny_bind (wpAny_holding ?_)
  unfold calleeOf
  rw [if_pos rfl]
  refine wpAny_mono (h₁ _) (fun fm s₂ h₂ => ?_) fun _ _ e => e
  exact wpAny_bind (wpAny_of_eq hpos h₂)

section
variable {C : Fn → List PV → B.M PV} {k n : Nat} {ns : Names} {sm : Slots} {env : PySem.Env} {ρ : Mine.Env}

theorem snd_callWith {f : Value} {first : List Value} {es : List PySem.Expr} {ps : List PE} {pos : Pos} {Q : Value → Shared → Prop} {K : List PV → St → Prop} (hk : Kept c f) (ihE : SE c C k n) (hc : chkCall (chkE n) ns sm es ps = true) (H : Here c k A m ns sm env ρ) (h : B.W (B.evalL C ps ρ) m.σ K)
    (q : ∀ vs n rs, To none' m n → VRs c n.X rs vs → K rs n.σ → wpAny (model c.prog c.w) A (call f (first ++ vs)) Q NoE n.s) :
    wpAny (model c.prog c.w) A (callWith pos f first (backTo pos (starEach es env)) []) Q NoE m.s :=
  and_e hc fun hs hc => PySem.W.callWith_of (P := fun h => ∀ b o, c.h₀.get? b = some o → h.get? b = some o) (by rw [star_any hs]; rfl) hk (evalArgs_es hs
    (sub (snd_args ihE es ps m K hs hc H h) fun vs n rs t g h => ⟨fun b o e => n.old e, q vs n rs t g h⟩))

theorem eval_call_name {x : PySem.Str} {np pos : Pos} {es : List PySem.Expr} {Q : Value → Shared → Prop} {E : Value → Shared → Prop}
    (h : wpAny (model c.prog c.w) A (eval (.Name x np) env) (fun f s₁ => wpAny (model c.prog c.w) A (callWith pos f [] (backTo pos (starEach es env)) []) Q E s₁) E s) : wpAny (model c.prog c.w) A (eval (.Call (.Name x np) es [] pos) env) Q E s := by
  rw [arm_eval_Call_Name']
  exact wpAny_bind h

theorem not_behind {o : CmpOp} {e : PySem.Expr} (h : isSet e = false) : behindInMarks o e = false := by cases e <;> first | rfl | cases h

variable {e1 e2 e3 : PySem.Expr} {p1 p2 p3 : PE} {pos : Pos}
theorem two {P : Value → Value → Shared → Prop} {E : Value → Shared → Prop} {K : PV → PV → St → Prop} (h1 : SE1 c C k ns sm e1 p1) (h2 : SE1 c C k ns sm e2 p2) (H : Here c k A m ns sm env ρ) (h : B.W (B.evalE C p1 ρ) m.σ fun x σ => B.W (B.evalE C p2 ρ) σ (K x))
    (q : ∀ v₁ v₂ n r₁ r₂, To none' m n → VR c n.X r₁ v₁ → VR c n.X r₂ v₂ → K r₁ r₂ n.σ → P v₁ v₂ n.s) : wpAny (model c.prog c.w) A (eval e1 env) (fun v₁ s₁ => wpAny (model c.prog c.w) A (eval e2 env) (fun v₂ s₂ => P v₁ v₂ s₂) E s₁) E m.s :=
  (h1 m A env ρ _ H h).sub fun v₁ n₁ r₁ t₁ g₁ h => (h2 n₁ A env ρ (K r₁) (H.to t₁) h).sub fun v₂ n₂ r₂ t₂ g₂ h => q v₁ v₂ n₂ r₁ r₂ (t₁.trans t₂) (VR.le t₂.le _ _ g₁) g₂ h
theorem snd_part {p : PE} {o : Option PySem.Expr} {Q : PV → St → Prop} (ihE : SE c C k n) (hc : chkOpt (chkE n ns sm) o p = true) (H : Here c k A m ns sm env ρ) (h : B.W (B.evalE C p ρ) m.σ Q) : Wp A (evalPart o env) m Q := by
  cases o with
  | none =>
    revert h
    exact isNoneE_e hc fun h => wpAny_evalPart_none (Ends.retV (.none) rfl h)
  | some e => exact wpAny_evalPart_some (ihE _ _ _ _ hc m A env ρ Q H h)

theorem se_bool {b : Bool} {kd : _} : SE1 c C k ns sm (.Constant (.bool b) kd pos) (.bool b) := fun m A env ρ Q H h => wpAny_Constant_bool (Ends.retV (.bool b) rfl h)
theorem se_none {kd : _} : SE1 c C k ns sm (.Constant .none kd pos) .none := fun m A env ρ Q H h => wpAny_Constant_none (Ends.retV (.none) rfl h)
theorem se_int {i : Int} {kd : _} : SE1 c C k ns sm (.Constant (.int i) kd pos) (.int i) := fun m A env ρ Q H h => wpAny_Constant_int (Ends.tokV (.int i) ⟨_, rfl⟩ h)
theorem se_neg {i : Int} {kd : _} {p : Pos} : SE1 c C k ns sm (.UnaryOp .USub (.Constant (.int i) kd p) pos) (.neg i) := fun m A env ρ Q H h => wpAny_UnaryOp (wpAny_Constant_int (neg_int (Ends.tokV (m := m) (.int (-i)) ⟨_, rfl⟩ h)))
theorem se_str {x : SK} {kd : _} : SE1 c C k ns sm (.Constant (.str x.str) kd pos) (.str x) := fun m A env ρ Q H h => wpAny_Constant_str (Ends.tokV (.str x) ⟨_, rfl⟩ h)
theorem se_gc {x : PySem.Str} {g : Gc} (F : Facts c) (hc : chkGlob ns x g.str = true) : SE1 c C k ns sm (.Name x pos) (.gc g) := fun m A env ρ Q H h => by
  obtain ⟨mg, mb, NF⟩ := F.names
  obtain ⟨v, hv, hr⟩ := NF.gc g
  exact snd_glob H hc NF.g hv (Ends.ret (VR.le (start_le m.R) _ _ hr) h)
theorem se_bin {op : BOp} (h1 : SE1 c C k ns sm e1 p1) (h2 : SE1 c C k ns sm e2 p2) : SE1 c C k ns sm (.BinOp e1 op.op e2 pos) (.bin op p1 p2) := fun m A env ρ Q H h =>
  wpAny_BinOp (two (K := fun x => B.kBin2 op x Q) h1 h2 H h fun v₁ v₂ n r₁ r₂ t g₁ g₂ h => fin t (B.M.Got_e h fun r e q => ofP (snd_bin n.hX n.R g₁ g₂ e) q))
theorem se_not (h1 : SE1 c C k ns sm e1 p1) : SE1 c C k ns sm (.UnaryOp .Not e1 pos) (.not p1) := fun m A env ρ Q H h =>
  wpAny_UnaryOp ((h1 m A env ρ (B.kNot Q) H h).sub fun v n r t g h => B.M.Got_e h fun b e q => not_value (snd_truth g e (Ends.to t (Ends.retV (.bool !b) rfl q))))
theorem se_ite (h1 : ST1 c C k ns sm e1 p1) (h2 : SE1 c C k ns sm e2 p2) (h3 : SE1 c C k ns sm e3 p3) : SE1 c C k ns sm (.IfExp e1 e2 e3 pos) (.ite p1 p2 p3) := fun m A env ρ Q H h => by
  refine wpAny_IfExp (sub (h1 m A env ρ (B.kIte C p2 p3 ρ Q) H h fun r σ' h => B.WT.any h) fun b n r t g h => ?_)
  cases b with
  | true => exact fin t (h2 n A env ρ Q (H.to t) (B.WT.t g h))
  | false => exact fin t (h3 n A env ρ Q (H.to t) (B.WT.f g h))
theorem se_cmp {op : COp} (c0 : isSet e2 = false) (h1 : SE1 c C k ns sm e1 p1) (h2 : SE1 c C k ns sm e2 p2) : SE1 c C k ns sm (.Compare e1 [op.op] [e2] pos) (.cmp op p1 p2) := fun m A env ρ Q H h =>
  wpAny_Compare1 (two (K := fun x => B.kCmp2 op x Q) h1 h2 H h fun v₁ v₂ n r₁ r₂ t g₁ g₂ h => B.M.Got_e h fun b e q => snd_cmp n.hX g₁ g₂ e (room_units H.room) (Ends.to t (Ends.retV (.bool b) rfl q))) (not_behind c0)
theorem se_cmp2 {o1 o2 : COp} (c2 : isSet e2 = false) (c3 : isSet e3 = false) (h1 : SE1 c C k ns sm e1 p1) (h2 : SE1 c C k ns sm e2 p2) (h3 : SE1 c C k ns sm e3 p3) : SE1 c C k ns sm (.Compare e1 [o1.op, o2.op] [e2, e3] pos) (.cmp2 o1 o2 p1 p2 p3) := fun m A env ρ Q H h => by
  show wpAny _ _ _ _ _ _
  rw [arm_eval_Compare]
  refine wpAny_bind ((h1 m A env ρ (B.kCC1 C o1 o2 p2 p3 ρ Q) H h).sub fun v₁ n₁ r₁ t₁ g₁ h => ?_)
  show wpAny _ _ (do
    let rv ← holding [v₁] (eval e2 env)
    standAt pos
    let c ← holding [v₁, rv] (compareOp o1.op v₁ rv)
    release [v₁, rv] [c]
    if ← holding [c, rv] (truthy c) then compareChain pos rv [o2.op] [markedBehindIn o2.op e3 (eval e3 env)] else pure c) _ _ _
  refine wpAny_bind (wpAny_holding ((h2 n₁ A env ρ (B.kCC2 C o1 o2 r₁ p3 ρ Q) (H.to t₁) h).sub fun v₂ n₂ r₂ t₂ g₂ h => B.M.Got_e h fun b e h => ?_))
  refine wpAny_bind (wpAny_standAt (wpAny_bind (wpAny_holding (snd_cmp n₂.hX (VR.le t₂.le _ _ g₁) g₂ e (room_units H.room) ?_))))
  refine wpAny_bind (release_ (wpAny_bind (wpAny_holding (wpAny_truthy_bool ?_))))
  have t := t₁.trans t₂
  cases b with
  | false => exact wpAny_pure (Ends.to t (Ends.retV (.bool false) rfl h))
  | true =>
    rw [markedBehindIn_of_false (not_behind c3)]
    show wpAny _ _ (do
      let rv' ← holding [v₂] (eval e3 env)
      standAt pos
      operate [v₂, rv'] (compareOp o2.op v₂ rv')) _ _ _
    refine wpAny_bind (wpAny_holding ((h3 n₂ A env ρ (B.kCmp2 o2 r₂ Q) (H.to t) h).sub fun v₃ n₃ r₃ t₃ g₃ h => B.M.Got_e h fun b e h => ?_))
    exact wpAny_bind (wpAny_standAt (wpAny_operateT (snd_cmp n₃.hX (VR.le t₃.le _ _ g₂) g₃ e (room_units H.room) (Ends.to (t.trans t₃) (Ends.retV (.bool b) rfl h)))))
theorem lt2 {n : Nat} (h : n < LIM) : n ≤ 2 * LIM := Nat.le_of_succ_le (lim2 h)
variable {es : List PySem.Expr} {ps : List PE} {kd : Nat}
theorem se_tup (ihE : SE c C k n) (hc : chkCall (chkE n) ns sm es ps = true) : SE1 c C k ns sm (.Tuple es kd pos) (.tup ps) := fun m A env ρ Q H h => and_e hc fun hs hc =>
  wpAny_Tuple (sub (snd_args ihE es ps m (B.kTup Q) hs hc H h) fun us n r t g h => B.Fits_e h fun hl q => ⟨size_line g (lt2 hl), Ends.to t ((post_tuple (cur := none') (t := n.s.toks) n.hX n.R g (lt2 hl)).ends (V := VN) (fun _ _ z => z) q)⟩)
theorem se_list (ihE : SE c C k n) (hc : chkCall (chkE n) ns sm es ps = true) : SE1 c C k ns sm (.List es pos) (.list ps) := fun m A env ρ Q H h => and_e hc fun hs hc =>
  wpAny_List (sub (snd_args ihE es ps m (B.kList Q) hs hc H h) fun us n r t g h => B.Fits_e h fun hl q => ⟨size_line g (lt2 hl), Ends.to t ((post_list (cur := none') (t := n.s.toks) n.hX n.R g (lt2 hl)).ends (V := VN) (fun _ _ z => z) q)⟩)
theorem se_mlist (ihE : SE c C k n) (hc : chkCall (chkE n) ns sm es ps = true) : SE1 c C k ns sm (.List es pos) (.mlist ps) := fun m A env ρ Q H h => and_e hc fun hs hc =>
  wpAny_List (sub (snd_args ihE es ps m (B.kMlist Q) hs hc H h) fun us n r t g h => B.Fits_e h fun hl q => ⟨size_line g (lt2 hl), Ends.to t (alloc_list (t := n.s.toks) g (lt2 hl) q)⟩)
theorem se_mdict (F : Facts c) : SE1 c C k ns sm (.Dict [] [] pos) .mdict := fun m A env ρ Q H h => wpAny_Dict_empty (alloc_dict (t := m.s.toks) F.sys h)
theorem se_sub (c0 : isSlice e2 = false) (h1 : SE1 c C k ns sm e1 p1) (h2 : SE1 c C k ns sm e2 p2) : SE1 c C k ns sm (.Subscript e1 e2 pos) (.sub p1 p2) := fun m A env ρ Q H h =>
  Subscript_ (two (K := fun x => B.kSub2 x Q) h1 h2 H h fun v₁ v₂ n r₁ r₂ t g₁ g₂ h => fin t (snd_sub c0 g₁ g₂ h))
theorem parts {o1 o2 : Option PySem.Expr} {K : PV → PV → St → Prop} {Q : Value → Shared → Prop} {E : Value → Shared → Prop} (ihE : SE c C k n) (c1 : chkOpt (chkE n ns sm) o1 p1 = true) (c2 : chkOpt (chkE n ns sm) o2 p2 = true) (H : Here c k A m ns sm env ρ) (h : B.W (B.evalE C p1 ρ) m.σ fun x σ => B.W (B.evalE C p2 ρ) σ (K x))
    (q : ∀ sl v₁ v₂ n r₁ r₂, To none' m n → VR c n.X r₁ v₁ → VR c n.X r₂ v₂ → n.s.heap.IsSliceOf sl v₁ v₂ .none → K r₁ r₂ n.σ → Q (.ref sl) n.s) : wpAny (model c.prog c.w) A (eval (.Slice o1 o2 none pos) env) Q E m.s := by
  refine wpAny_Slice ((snd_part ihE c1 H h).sub fun v₁ n₁ r₁ t₁ g₁ h => (snd_part ihE c2 (H.to t₁) h).sub fun v₂ n₂ r₂ t₂ g₂ h => ?_)
  rw [evalPart_none]
  have T : To none' n₂ (n₂.grow (n₂.s.heap.push { cls := .type "slice", data := .fields #[v₁, v₂, .none] }) fun b o e => Heap.get?_push_of_some _ e) := To.grow
  exact wpAny_pure (q _ v₁ v₂ _ r₁ r₂ ((t₁.trans t₂).trans T) (VR.le (t₂.trans T).le _ _ g₁) (VR.le T.le _ _ g₂) (Heap.IsSliceOf.new ..) h)
theorem se_slice {o1 o2 : Option PySem.Expr} {spos : Pos} (ihE : SE c C k n) (h1 : SE1 c C k ns sm e1 p1) (c1 : chkOpt (chkE n ns sm) o1 p2 = true) (c2 : chkOpt (chkE n ns sm) o2 p3 = true) : SE1 c C k ns sm (.Subscript e1 (.Slice o1 o2 none spos) pos) (.slice p1 p2 p3) := fun m A env ρ Q H h =>
  Subscript_ ((h1 m A env ρ (B.kSl1 C p2 p3 ρ Q) H h).sub fun v n r t g h => parts (K := fun l => B.kSl3 r l Q) ihE c1 c2 (H.to t) h fun sl v₁ v₂ n₂ r₁ r₂ t₂ g₁ g₂ hs h => fin (t.trans t₂) (snd_slice (VR.le t₂.le _ _ g) g₁ g₂ hs h))
theorem se_attr {a : At} (F : Facts c) (c0 : attrOk e1 = true) (h1 : SE1 c C k ns sm e1 p1) : SE1 c C k ns sm (.Attribute e1 a.str pos) (.attr p1 a) := fun m A env ρ Q H h => by
  show wpAny _ _ _ _ _ _
  rw [arm_eval_Attribute, base_ok c0]
  refine wpAny_bind ((h1 m A env ρ (B.kAttr a Q) H h).sub fun v n r t g h => wpAny_bind (wpAny_standAt (wpAny_bind (wpAny_holding ?_))))
  exact wpAny_mono (snd_attr F.cls g h) (fun v₂ s₂ q => wpAny_bind (wpAny_letTemporaryGo (wpAny_pure (Ends.to t q)))) fun _ _ z => z
@[elab_as_elim] theorem named_e {P : PySem.Expr → Prop} {e : PySem.Expr} {y : PySem.Str} {f : Names → Slots → PySem.Expr → PE → Bool} (h : chkNamed f ns sm e y ps = true) (q : ∀ x np es pos, chkGlob ns x y = true → chkCall f ns sm es ps = true → P (.Call (.Name x np) es [] pos)) : P e :=
  exCall_e h fun g es kw pos h => and_e h fun h1 h => empty_e h1 (exName_e h fun x np h => and_e h fun h1 h2 => q x np es pos h1 h2)
variable {x : PySem.Str} {np : Pos}
theorem se_callF {f : Fn} {y : PySem.Str} (F : Facts c) (hC : CallsOk c C k) (ihE : SE c C k n) (hf : f.str = some y) (c0 : chkGlob ns x y = true) (hc : chkCall (chkE n) ns sm es ps = true) : SE1 c C k ns sm (.Call (.Name x np) es [] pos) (.callF f ps) := fun m A env ρ Q H h => by
  obtain ⟨mg, mb, NF⟩ := F.names
  exact eval_call_name (snd_glob H c0 NF.g (NF.fn f _ hf) (snd_callWith (K := B.kCallF C f Q) (kept_fn F f) ihE hc H h fun vs n rs t g h => fin t (hC f rs vs n A Q h g H.room.less)))
theorem se_callC {kk : Cl} (F : Facts c) (hC : CallsOk c C k) (ihE : SE c C k n) (c0 : chkGlob ns x kk.str = true) (hc : chkCall (chkE n) ns sm es ps = true) : SE1 c C k ns sm (.Call (.Name x np) es [] pos) (.callC kk ps) := fun m A env ρ Q H h => by
  obtain ⟨mg, mb, NF⟩ := F.names
  exact eval_call_name (snd_glob H c0 NF.g (NF.cl kk) (snd_callWith (K := B.kCallC C kk Q) (kept_cls F kk) ihE hc H h fun vs n rs t g h => fin t (snd_new F hC H.room g h)))
theorem se_callB {b : Bi} (F : Facts c) (ihE : SE c C k n) (c0 : chkGlob ns x b.str = true) (hc : chkCall (chkE n) ns sm es ps = true) : SE1 c C k ns sm (.Call (.Name x np) es [] pos) (.callB b ps) := fun m A env ρ Q H h => by
  obtain ⟨mg, mb, NF⟩ := F.names
  exact eval_call_name (snd_blt H c0 NF.g NF.b (NF.bi b).1 (NF.bi b).2 (snd_callWith (K := B.kCallB b Q) (kept_blt b) ihE hc H h fun vs n rs t g h => fin t (snd_builtin F.sys H.room g h)))
theorem se_mlistOf (F : Facts c) (ihE : SE c C k n) (c0 : chkGlob ns x Bi.list.str = true) (hc : chkCall (chkE n) ns sm es [p1] = true) : SE1 c C k ns sm (.Call (.Name x np) es [] pos) (.mlistOf p1) := fun m A env ρ Q H h => by
  obtain ⟨mg, mb, NF⟩ := F.names
  refine eval_call_name (snd_blt H c0 NF.g NF.b (NF.bi .list).1 (NF.bi .list).2 (snd_callWith (ps := [p1]) (K := fun rs σ => ∃ r, rs = [r] ∧ B.kMlistOf Q r σ) (kept_blt .list) ihE hc H ((B.evalE C p1 ρ).mono _ _ _ (fun r σ' q => ⟨r, rfl, q⟩) h) fun vs n rs t g h => ?_))
  obtain ⟨r, rfl, us, rfl, q⟩ := h
  exact fin t (g.one_e fun v g => snd_mlistOf g q)
theorem methI_e {kk : Cl} {mt : Mt} {σ : St} {K : Option Fn → St → Prop} {R : Prop} (h : B.W (B.methI kk mt) σ K) (q : ∀ f, methodOf kk mt = some f → K (some f) σ → R) : R := by
  unfold B.methI at h
  cases e : methodOf kk mt with
  | none => rw [e] at h; exact h.elim
  | some f => rw [e] at h; exact q f e h
theorem meth_own {mt : Mt} {kk : Cl} {f : Fn} {o : PV} {a d : Addr} {mA : PySem.Str → Option Value} {pl : Sem Bool} {Q : PV → St → Prop} (F : Facts c) (hC : CallsOk c C k) (ihE : SE c C k n) (hc : chkCall (chkE n) ns sm es ps = true) (H : Here c k A m ns sm env ρ) (I : InstAt m.X.h a d (c.cA kk) mA) (hm : methodOf kk mt = some f) (ho : VR c m.X o (.ref a))
    (h : B.kMeth2 C mt o ps ρ Q (some f) m.σ) : wpAny (model c.prog c.w) A (getMethod (.ref a) mt.str pl) (fun fm s₂ => wpAny (model c.prog c.w) A (callWith pos fm.1 fm.2 (backTo pos (starEach es env)) []) (Ends none' VN m Q) NoE s₂) NoE m.s :=
  meth_inst F I hm (snd_callWith (K := B.kMeth3 C mt (some f) o Q) (kept_fn F f) ihE hc H h fun vs n rs t g h => fin t (hC f (o :: rs) (.ref a :: vs) n A Q h (VRs.cons (VR.le t.le _ _ ho) g) H.room.less))
theorem meth_any {mt : Mt} {o : PV} {ov : Value} {pl : Sem Bool} {Q : PV → St → Prop} (F : Facts c) (hC : CallsOk c C k) (ihE : SE c C k n) (hc : chkCall (chkE n) ns sm es ps = true) (H : Here c k A m ns sm env ρ) (ho : VR c m.X o ov) (how : mt.own = true) (h : B.kMeth1 C mt ps ρ Q o m.σ) :
    wpAny (model c.prog c.w) A (getMethod ov mt.str pl) (fun fm s₂ => wpAny (model c.prog c.w) A (callWith pos fm.1 fm.2 (backTo pos (starEach es env)) []) (Ends none' VN m Q) NoE s₂) NoE m.s := by
  have key : B.W (match o with | .inst c _ => B.methI c mt | .ref i => B.M.bind (B.M.get i) fun ob => B.M.onInst ob fun c _ => B.methI c mt | _ => B.M.fail) m.σ (B.kMeth2 C mt o ps ρ Q) := by
    cases mt <;> first | exact h | cases how
  cases o with
  | inst kk fs => exact methI_e key fun f hm h => (id ho : VR c m.X _ ov).inst_e (P := fun ov => VR c m.X (.inst kk fs) ov → wpAny _ _ (getMethod ov _ _) _ _ _) (fun a d mA _ _ I _ ho => meth_own F hC ihE hc H I hm ho h) ho
  | ref i =>
    refine B.M.There_e key fun ob lv key => ?_
    revert lv
    refine B.M.onInst_e key fun kk fs key lv => methI_e key fun f hm h => ?_
    exact (m.R.live i _ lv).2.inst_e fun _ _ mA I _ => ho.2 ▸ meth_own F hC ihE hc H I hm (ho.2 ▸ ho) h
  | _ => exact key.elim
end
end Mine
namespace Mine
open PySem PyProof.V PyProof.Rows
set_option autoImplicit false
set_option linter.unusedVariables false
set_option maxRecDepth 100000
variable {c : Cx} {A : Around} {m n : Now c} {s : Shared}
section
variable {C : Fn → List PV → B.M PV} {k n : Nat} {ns : Names} {sm : Slots} {env : PySem.Env} {ρ : Mine.Env} {e1 e2 e3 : PySem.Expr} {p1 p2 p3 : PE} {pos : Pos} {es : List PySem.Expr} {ps : List PE}
theorem meth_append {o : PV} {ov : Value} {pl : Sem Bool} {Q : PV → St → Prop} (ihE : SE c C k n) (hc : chkCall (chkE n) ns sm es ps = true) (H : Here c k A m ns sm env ρ) (ho : VR c m.X o ov) (h : B.kMeth1 C .append ps ρ Q o m.σ) :
    wpAny (model c.prog c.w) A (getMethod ov Mt.append.str pl) (fun fm s₂ => wpAny (model c.prog c.w) A (callWith pos fm.1 fm.2 (backTo pos (starEach es env)) []) (Ends none' VN m Q) NoE s₂) NoE m.s := by
  cases o with
  | ref i =>
    refine B.M.There_e h fun ob lv h => ?_
    revert lv
    refine B.M.onList_e h fun xs h lv => (m.R.live i _ lv).2.list_e fun e hn vs n hl hvs => ?_
    have hl' : m.s.heap.PlainList (m.X.ι i).1 vs.toArray := e ▸ m.hX ▸ ⟨_, hl⟩
    refine ho.2 ▸ meth_list hl' (snd_callWith (K := B.kMeth3 C .append none (.ref i) Q) (kept_id _) ihE hc H h fun vs n rs t g h => fin t ?_)
    exact t.nx.ι i ho.1 ▸ snd_append g h
  | _ => exact h.elim
theorem meth_dget {o : PV} {ov : Value} {pl : Sem Bool} {Q : PV → St → Prop} (ihE : SE c C k n) (hc : chkCall (chkE n) ns sm es ps = true) (H : Here c k A m ns sm env ρ) (ho : VR c m.X o ov) (h : B.kMeth1 C .get ps ρ Q o m.σ) :
    wpAny (model c.prog c.w) A (getMethod ov Mt.get.str pl) (fun fm s₂ => wpAny (model c.prog c.w) A (callWith pos fm.1 fm.2 (backTo pos (starEach es env)) []) (Ends none' VN m Q) NoE s₂) NoE m.s := by
  cases o with
  | dct kvs =>
    refine VR.dct_e (P := fun ov => VR c m.X (.dct kvs) ov → wpAny _ _ (getMethod ov _ _) _ _ _) ho (fun a us f nsy hl hn hvs ho => ?_) ho
    exact meth_get (m.hX ▸ hl) (snd_callWith (K := B.kMeth3 C .get none (.dct kvs) Q) (kept_id _) ihE hc H h fun vs n rs t g h => fin t (snd_get (VR.le t.le _ _ ho) g h))
  | _ => exact h.elim
theorem meth_setd {o : PV} {ov : Value} {pl : Sem Bool} {Q : PV → St → Prop} (ihE : SE c C k n) (hc : chkCall (chkE n) ns sm es ps = true) (H : Here c k A m ns sm env ρ) (ho : VR c m.X o ov) (h : B.kMeth1 C .setdefault ps ρ Q o m.σ) :
    wpAny (model c.prog c.w) A (getMethod ov Mt.setdefault.str pl) (fun fm s₂ => wpAny (model c.prog c.w) A (callWith pos fm.1 fm.2 (backTo pos (starEach es env)) []) (Ends none' VN m Q) NoE s₂) NoE m.s := by
  cases o with
  | ref i =>
    refine B.M.There_e h fun ob lv h => ?_
    revert lv
    refine B.M.onDict_e h fun xs h lv => (m.R.live i _ lv).2.dict_e fun e nsy hn vs hl hvs => ?_
    have hl' : m.s.heap.DictOf (intKind c.prog c.w) (m.X.ι i).1 vs := e ▸ m.hX ▸ hl
    refine ho.2 ▸ meth_setdefault hl' (snd_callWith (K := B.kMeth3 C .setdefault none (.ref i) Q) (kept_id _) ihE hc H h fun vs n rs t g h => fin t ?_)
    exact t.nx.ι i ho.1 ▸ snd_setdefault g h
  | _ => exact h.elim
theorem se_meth {mt : Mt} {apos : Pos} (F : Facts c) (hC : CallsOk c C k) (ihE : SE c C k n) (c2 : apos.endLine = pos.line) (c3 : attrOk e1 = true) (c4 : es.length < 30) (h1 : SE1 c C k ns sm e1 p1) (hc : chkCall (chkE n) ns sm es ps = true) :
    SE1 c C k ns sm (.Call (.Attribute e1 mt.str apos) es [] pos) (.meth p1 mt ps) := fun m A env ρ Q H h => by
  refine meth_call c3 c2 (and_e hc fun hs _ => hs) c4 ((h1 m A env ρ (B.kMeth1 C mt ps ρ Q) H h).sub fun ov n r t g h pl => ?_)
  refine wpAny_mono (?_ : wpAny (model c.prog c.w) A (getMethod ov mt.str pl) (fun fm s₂ => wpAny (model c.prog c.w) A (callWith pos fm.1 fm.2 (backTo pos (starEach es env)) []) (Ends none' VN n Q) NoE s₂) NoE n.s) (fun fm s₂ h => fin t h) fun _ _ z => z
  have H' := H.to t
  cases mt with
  | append => exact meth_append ihE hc H' g h
  | get => exact meth_dget ihE hc H' g h
  | setdefault => exact meth_setd ihE hc H' g h
  | glyph_class => exact meth_any F hC ihE hc H' g rfl h
  | class_of => exact meth_any F hC ihE hc H' g rfl h
  | next_lig => exact meth_any F hC ihE hc H' g rfl h

variable {x : PySem.Str} {px : Pos} {j : Nat} {scope : Scope} {ifs : List PySem.Expr}
@[elab_as_elim] theorem compr_e {P : PySem.Expr → Prop} {e : PySem.Expr} {elt it : PE} {f : Names → Slots → PySem.Expr → PE → Bool} {t : Names → Slots → List PySem.Expr → Bool} (h : chkCompr f ns sm e elt j it t = true)
    (q : ∀ e1 x px e2 ifs sc pos, isSet e2 = false → chkScope ns sm sc x j = true → f ns sm e2 it = true → t (relNs ns sc.names) ((x, j) :: sm) ifs = true → f (relNs ns sc.names) ((x, j) :: sm) e1 elt = true → P (.ListComp e1 [⟨.Name x px, e2, ifs, 0⟩] sc pos)) : P e :=
  exComp_e h fun e1 gs sc pos h => exGen_e h fun x px e2 ifs h => and_e h fun h0 h => and_e h fun h1 h => and_e h fun h2 h => and_e h fun h3 h4 => q e1 x px e2 ifs sc pos (not_e h0) h1 h2 h3 h4
theorem compr_plain (ihE : SE c C k n) {elt it : PE} (h0 : isSet e2 = false) (h1 : chkScope ns sm scope x j = true) (h2 : chkE n ns sm e2 it = true) (h3 : chkE n (relNs ns scope.names) ((x, j) :: sm) e1 elt = true) :
    Compr c C k ns sm ρ e1 x j e2 [] scope it none (fun v => B.evalE C elt (Mine.Env.put ρ j v)) none elt :=
  ⟨h0, scope_ok h1, ihE _ _ _ _ h2, ts_none, ihE _ _ _ _ h3, fun _ => rfl, fun _ _ _ => rfl⟩
theorem compr_if (ihE : SE c C k n) (ihT : ST c C k n) {elt it pc : PE} (h0 : isSet e2 = false) (h1 : chkScope ns sm scope x j = true) (h2 : chkE n ns sm e2 it = true) (h4 : chkE n (relNs ns scope.names) ((x, j) :: sm) e3 pc = true) (h3 : chkE n (relNs ns scope.names) ((x, j) :: sm) e1 elt = true) :
    Compr c C k ns sm ρ e1 x j e2 [e3] scope it (some fun v => B.evalE C pc (Mine.Env.put ρ j v)) (fun v => B.evalE C elt (Mine.Env.put ρ j v)) (some pc) elt :=
  ⟨h0, scope_ok h1, ihE _ _ _ _ h2, ts_some (ihT _ _ _ _ h4), ihE _ _ _ _ h3, fun _ => rfl, fun _ _ _ => rfl⟩
theorem se_frz {i : Nat} (h1 : SE1 c C k ns sm e1 p1) : SE1 c C k ns sm e1 (.frz i p1) := fun m A env ρ Q H h => (h1 m A env ρ (B.kFrz i Q) H h).sub fun v n r t g h => Ends.to t (freeze_ok i n r v Q g h)

theorem se_and (ihE : SE c C k n) (hc : all2 (chkE n ns sm) es ps = true) : SE1 c C k ns sm (.BoolOp .And es pos) (.band ps) := fun m A env ρ Q H h => by
  show wpAny _ _ _ _ _ _
  rw [arm_eval_BoolOp]
  exact snd_and ihE es ps m Q hc H h
theorem se_or (ihE : SE c C k n) (hc : all2 (chkE n ns sm) es ps = true) : SE1 c C k ns sm (.BoolOp .Or es pos) (.bor ps) := fun m A env ρ Q H h => by
  show wpAny _ _ _ _ _ _
  rw [arm_eval_BoolOp]
  exact snd_or ihE es ps m Q hc H h
theorem se_comp {e : PySem.Expr} {elt it : PE} (ihE : SE c C k n) (hc : chkCompr (chkE n) ns sm e elt j it (fun _ _ ifs => ifs.isEmpty) = true) : SE1 c C k ns sm e (.comp elt j it) :=
  compr_e hc fun e1 x px e2 ifs sc pos h0 h1 h2 h3 h4 => empty_e h3 fun m A env ρ Q H h => snd_comp (compr_plain ihE h0 h1 h2 h4) H h
theorem se_compIf {e : PySem.Expr} {elt it pc : PE} (ihE : SE c C k n) (ihT : ST c C k n) (hc : chkCompr (chkE n) ns sm e elt j it (fun ns' sm' ifs => l1 ifs fun e3 => chkE n ns' sm' e3 pc) = true) : SE1 c C k ns sm e (.compIf elt j it pc) :=
  compr_e hc fun e1 x px e2 ifs sc pos h0 h1 h2 h3 h4 => l1_e h3 fun e3 h3 => fun m A env ρ Q H h => snd_comp (compr_if ihE ihT h0 h1 h2 h3 h4) H h
theorem se_succ (F : Facts c) (hC : CallsOk c C k) (ihE : SE c C k n) (ihT : ST c C k n) : SE c C k (n + 1) := by
  intro ns sm e p hc
  cases p with
  | none => exact exC_e hc fun kd pos => se_none
  | bool b => exact exC_e hc fun kd pos => se_bool
  | int i => exact exC_e hc fun kd pos => se_int
  | neg i => exact exUn_e hc fun o x pos h => and_e h fun h1 h2 => of_decide_eq_true h1 ▸ exC_e h2 fun kd pos' => se_neg
  | str x => exact exC_e hc fun kd pos => se_str
  | var j => exact exName_e hc fun x pos h => se_var h
  | gc g => exact exName_e hc fun x pos h => se_gc F h
  | bin op a b => exact exBin_e hc fun l o r pos h => and_e h fun h1 h => and_e h fun h2 h3 => of_decide_eq_true h1 ▸ se_bin (ihE _ _ _ _ h2) (ihE _ _ _ _ h3)
  | not a => exact exUn_e hc fun o x pos h => and_e h fun h1 h2 => of_decide_eq_true h1 ▸ se_not (ihE _ _ _ _ h2)
  | band ps => exact exBool_e hc fun o es pos h => and_e h fun h1 h2 => of_decide_eq_true h1 ▸ se_and ihE h2
  | bor ps => exact exBool_e hc fun o es pos h => and_e h fun h1 h2 => of_decide_eq_true h1 ▸ se_or ihE h2
  | ite t a b => exact exIf_e hc fun t x y pos h => and_e h fun h1 h => and_e h fun h2 h3 => se_ite (ihT _ _ _ _ h1) (ihE _ _ _ _ h2) (ihE _ _ _ _ h3)
  | cmp op a b => exact exCmp_e hc fun l os rs pos h => l1_e h fun o h => l1_e h fun r h => and_e h fun h1 h => and_e h fun h0 h => and_e h fun h2 h3 => of_decide_eq_true h1 ▸ se_cmp (not_e h0) (ihE _ _ _ _ h2) (ihE _ _ _ _ h3)
  | cmp2 o1 o2 a b d => exact exCmp_e hc fun l os rs pos h => l2_e h fun o1 o2 h => l2_e h fun r1 r2 h => and_e h fun h1 h => and_e h fun h2 h => and_e h fun h3 h => and_e h fun h4 h => and_e h fun h5 h => and_e h fun h6 h7 => of_decide_eq_true h1 ▸ of_decide_eq_true h2 ▸ se_cmp2 (not_e h3) (not_e h4) (ihE _ _ _ _ h5) (ihE _ _ _ _ h6) (ihE _ _ _ _ h7)
  | tup ps => exact exTup_e hc fun es kd pos h => se_tup ihE h
  | list ps => exact exList_e hc fun es pos h => se_list ihE h
  | mlist ps => exact exList_e hc fun es pos h => se_mlist ihE h
  | dict ks ps => exact exDict_e hc fun keys es pos h => and_e h fun h1 h => and_e h fun h2 h => and_e h fun h3 h4 => fun m A env ρ Q H h => snd_dict F ihE h1 (of_decide_eq_true h3) (of_decide_eq_true h4) h2 H h
  | mdict => exact exDict_e hc fun keys es pos h => and_e h fun h1 h2 => empty_e h1 (empty_e h2 (se_mdict F))
  | sub a i => exact exSub_e hc fun v j pos h => and_e h fun h0 h => and_e h fun h1 h2 => se_sub (not_e h0) (ihE _ _ _ _ h1) (ihE _ _ _ _ h2)
  | slice a lo hi => exact exSub_e hc fun v j pos h => exSlice_e h fun l u st spos h => and_e h fun h0 h => and_e h fun h1 h => and_e h fun h2 h3 => oNone_e h0 (se_slice ihE (ihE _ _ _ _ h1) h2 h3)
  | attr a x => exact exAttr_e hc fun v y pos h => and_e h fun h1 h => and_e h fun h0 h2 => of_decide_eq_true h1 ▸ se_attr F h0 (ihE _ _ _ _ h2)
  | callF f ps => exact onSome_e hc fun y hf hc => named_e hc fun x np es pos h1 h2 => se_callF F hC ihE hf h1 h2
  | callC kk ps => exact named_e hc fun x np es pos h1 h2 => se_callC F hC ihE h1 h2
  | callB b ps => exact named_e hc fun x np es pos h1 h2 => se_callB F ihE h1 h2
  | mlistOf a => exact named_e hc fun x np es pos h1 h2 => se_mlistOf F ihE h1 h2
  | meth a mt ps => exact exCall_e hc fun g es kw pos h => and_e h fun h0 h => empty_e h0 (exAttr_e h fun o x apos h => and_e h fun h1 h => and_e h fun h2 h => and_e h fun h3 h => and_e h fun h4 h => and_e h fun h5 h6 => of_decide_eq_true h1 ▸ se_meth F hC ihE (of_decide_eq_true h2) h3 (of_decide_eq_true h4) (ihE _ _ _ _ h5) h6)
  | comp elt j it => exact se_comp ihE hc
  | compIf elt j it pc => exact se_compIf ihE ihT hc
  | frz i a => exact and_e hc fun _ h => se_frz (ihE _ _ _ _ h)
  | bad => exact fun m A env ρ Q H h => h.elim

theorem isTrue_is {e : PySem.Expr} {whole : Sem Value} : plainT e = true → isTrue e env whole = (do let v ← whole; standAt e.pos; holding [v] (truthy v)) := by
  cases e <;> intro h <;> first | rfl | cases h
theorem st_value {e : PySem.Expr} {p : PE} (h1 : SE1 c C k ns sm e p) (hp : ∀ env whole, isTrue e env whole = (do let v ← whole; standAt e.pos; holding [v] (truthy v))) : ST1 c C k ns sm e p := fun m A env ρ Q H h hQ =>
  wpAny_isTrue_value ((h1 m A env ρ Q H h).sub fun v n r t g h => by
    cases e : truth r with
    | none => exact absurd e (hQ _ _ h)
    | some b => exact snd_truth g e (Ends.to t (Ends.ret e h))) (hp env _)
theorem Got_any {α : Type} {o : Option α} {σ : St} {Q : α → St → Prop} (h : B.M.Got o σ Q) : o ≠ none := fun e => by subst e; exact h
theorem Got_at {α : Type} {o : Option α} {a : α} {σ : St} {Q : α → St → Prop} (e : o = some a) (h : B.M.Got o σ Q) : Q a σ := by subst e; exact h
theorem Ends.retT {cur : Addr → Prop} {m : Now c} {Q : PV → St → Prop} (b : Bool) (q : Q (.bool b) m.σ) : Ends cur TN m Q b m.s := Ends.ret (V := TN) (r := PV.bool b) rfl q
theorem st_not (h1 : ST1 c C k ns sm e1 p1) : ST1 c C k ns sm (.UnaryOp .Not e1 pos) (.not p1) := fun m A env ρ Q H h hQ =>
  wpAny_isTrue_Not (sub (h1 m A env ρ (B.kNot Q) H h fun r σ' h => Got_any h) fun b n r t g h => Ends.to t (Ends.retT (!b) (Got_at (Q := B.kNot2 Q) g h)))
theorem st_ite (h1 : ST1 c C k ns sm e1 p1) (h2 : ST1 c C k ns sm e2 p2) (h3 : ST1 c C k ns sm e3 p3) : ST1 c C k ns sm (.IfExp e1 e2 e3 pos) (.ite p1 p2 p3) := fun m A env ρ Q H h hQ => by
  show wpAny _ _ (do if ← isTrue e1 env (eval e1 env) then isTrue e2 env (eval e2 env) else isTrue e3 env (eval e3 env)) _ _ m.s
  refine wpAny_bind (sub (h1 m A env ρ (B.kIte C p2 p3 ρ Q) H h fun r σ' h => B.WT.any h) fun b n r t g h => ?_)
  cases b with
  | true => exact fin t (h2 n A env ρ Q (H.to t) (B.WT.t g h) hQ)
  | false => exact fin t (h3 n A env ρ Q (H.to t) (B.WT.f g h) hQ)
theorem st_cmp {op : COp} (c0 : isSet e2 = false) (h1 : SE1 c C k ns sm e1 p1) (h2 : SE1 c C k ns sm e2 p2) : ST1 c C k ns sm (.Compare e1 [op.op] [e2] pos) (.cmp op p1 p2) := fun m A env ρ Q H h hQ =>
  wpAny_isTrue_Compare1 (two (K := fun x => B.kCmp2 op x Q) h1 h2 H h fun v₁ v₂ n r₁ r₂ t g₁ g₂ h => B.M.Got_e h fun b e q => snd_cmp n.hX g₁ g₂ e (room_units H.room) (wpAny_truthy_bool (Ends.to t (Ends.retT b q)))) (not_behind c0)
theorem st_cmp2 {o1 o2 : COp} (c2 : isSet e2 = false) (c3 : isSet e3 = false) (h1 : SE1 c C k ns sm e1 p1) (h2 : SE1 c C k ns sm e2 p2) (h3 : SE1 c C k ns sm e3 p3) : ST1 c C k ns sm (.Compare e1 [o1.op, o2.op] [e2, e3] pos) (.cmp2 o1 o2 p1 p2 p3) := fun m A env ρ Q H h hQ => by
  show wpAny _ _ (do
    let left ← eval e1 env
    let rv ← holding [left] (eval e2 env)
    standAt pos
    let c ← holding [left, rv] (compareOp o1.op left rv)
    release [left, rv] [c]
    if ← holding [c, rv] (truthy c) then testChain pos rv [o2.op] [markedBehindIn o2.op e3 (eval e3 env)] else pure false) _ _ _
  refine wpAny_bind ((h1 m A env ρ (B.kCC1 C o1 o2 p2 p3 ρ Q) H h).sub fun v₁ n₁ r₁ t₁ g₁ h => ?_)
  refine wpAny_bind (wpAny_holding ((h2 n₁ A env ρ (B.kCC2 C o1 o2 r₁ p3 ρ Q) (H.to t₁) h).sub fun v₂ n₂ r₂ t₂ g₂ h => B.M.Got_e h fun b e h => ?_))
  refine wpAny_bind (wpAny_standAt (wpAny_bind (wpAny_holding (snd_cmp n₂.hX (VR.le t₂.le _ _ g₁) g₂ e (room_units H.room) ?_))))
  refine wpAny_bind (release_ (wpAny_bind (wpAny_holding (wpAny_truthy_bool ?_))))
  have t := t₁.trans t₂
  cases b with
  | false => exact wpAny_pure (Ends.to t (Ends.retT false h))
  | true =>
    rw [markedBehindIn_of_false (not_behind c3)]
    show wpAny _ _ (do
      let rv' ← holding [v₂] (eval e3 env)
      standAt pos
      let c ← operate [v₂, rv'] (compareOp o2.op v₂ rv')
      holding [c] (truthy c)) _ _ _
    refine wpAny_bind (wpAny_holding ((h3 n₂ A env ρ (B.kCmp2 o2 r₂ Q) (H.to t) h).sub fun v₃ n₃ r₃ t₃ g₃ h => B.M.Got_e h fun b e h => ?_))
    exact wpAny_bind (wpAny_standAt (wpAny_bind (wpAny_operateT (snd_cmp n₃.hX (VR.le t₃.le _ _ g₂) g₃ e (room_units H.room) (wpAny_holding (wpAny_truthy_bool (Ends.to (t.trans t₃) (Ends.retT b h))))))))
noncomputable def idxOf : PE → Nat
  | .none => 19 | .bool _ => 19 | .int _ => 19 | .str _ => 19 | .neg _ => 3 | .not _ => 3 | .var _ => 23 | .gc _ => 23 | .bin _ _ _ => 2 | .band _ => 0 | .bor _ => 0 | .ite _ _ _ => 5 | .cmp _ _ _ => 15 | .cmp2 _ _ _ _ _ => 15
  | .tup _ => 25 | .list _ => 24 | .mlist _ => 24 | .dict _ _ => 6 | .mdict => 6 | .sub _ _ => 21 | .slice _ _ _ => 21 | .attr _ _ => 20 | .callF _ _ => 16 | .callC _ _ => 16 | .callB _ _ => 16 | .mlistOf _ => 16 | .meth _ _ _ => 16
  | .comp _ _ _ => 8 | .compIf _ _ _ _ => 8 | .frz _ _ => 99 | .bad => 99
theorem ctor_of {e : PySem.Expr} {p : PE} (hc : chkE (n + 1) ns sm e p = true) (hp : (idxOf p == 99) = false) : e.ctorIdx = idxOf p := by
  cases p with
  | none => exact exC_e hc fun _ _ => rfl
  | bool b => exact exC_e hc fun _ _ => rfl
  | int i => exact exC_e hc fun _ _ => rfl
  | str x => exact exC_e hc fun _ _ => rfl
  | neg i => exact exUn_e hc fun _ _ _ _ => rfl
  | not i => exact exUn_e hc fun _ _ _ _ => rfl
  | var j => exact exName_e hc fun _ _ _ => rfl
  | gc g => exact exName_e hc fun _ _ _ => rfl
  | bin op a b => exact exBin_e hc fun _ _ _ _ _ => rfl
  | band ps => exact exBool_e hc fun _ _ _ _ => rfl
  | bor ps => exact exBool_e hc fun _ _ _ _ => rfl
  | ite a b d => exact exIf_e hc fun _ _ _ _ _ => rfl
  | cmp op a b => exact exCmp_e hc fun _ _ _ _ _ => rfl
  | cmp2 op o2 a b d => exact exCmp_e hc fun _ _ _ _ _ => rfl
  | tup ps => exact exTup_e hc fun _ _ _ _ => rfl
  | list ps => exact exList_e hc fun _ _ _ => rfl
  | mlist ps => exact exList_e hc fun _ _ _ => rfl
  | dict ks ps => exact exDict_e hc fun _ _ _ _ => rfl
  | mdict => exact exDict_e hc fun _ _ _ _ => rfl
  | sub a i => exact exSub_e hc fun _ _ _ _ => rfl
  | slice a lo hi => exact exSub_e hc fun _ _ _ _ => rfl
  | attr a x => exact exAttr_e hc fun _ _ _ _ => rfl
  | callF f ps => exact onSome_e hc fun y hf hc => exCall_e hc fun _ _ _ _ _ => rfl
  | callC kk ps => exact exCall_e hc fun _ _ _ _ _ => rfl
  | callB b ps => exact exCall_e hc fun _ _ _ _ _ => rfl
  | mlistOf a => exact exCall_e hc fun _ _ _ _ _ => rfl
  | meth a mt ps => exact exCall_e hc fun _ _ _ _ _ => rfl
  | comp elt j it => exact exComp_e hc fun _ _ _ _ _ => rfl
  | compIf elt j it pc => exact exComp_e hc fun _ _ _ _ _ => rfl
  | _ => cases hp
noncomputable def plainIdx (i : Nat) : Bool := !(i == 0 || (i == 3 || (i == 5 || i == 15)))
theorem plain_ctor {e : PySem.Expr} {p : PE} (hc : chkE (n + 1) ns sm e p = true) (hp : (idxOf p == 99) = false) (h : plainIdx (idxOf p) = true) : plainT e = true := by
  show plainIdx e.ctorIdx = true
  rw [ctor_of hc hp]
  exact h
theorem st_succ (hE : SE c C k (n + 1)) (ihE : SE c C k n) (ihT : ST c C k n) : ST c C k (n + 1) := by
  intro ns sm e p hc
  have h1 := hE ns sm e p hc
  have other : (idxOf p == 99) = false → plainIdx (idxOf p) = true → ST1 c C k ns sm e p := fun hp hq => st_value h1 fun env whole => isTrue_is (plain_ctor hc hp hq)
  cases p with
  | neg i =>
    revert h1
    exact exUn_e hc fun o x pos h => and_e h fun h1 _ => of_decide_eq_true h1 ▸ fun h1 => st_value h1 fun _ _ => rfl
  | not a => exact exUn_e hc fun o x pos h => and_e h fun h1 h2 => of_decide_eq_true h1 ▸ st_not (ihT _ _ _ _ h2)
  | band ps => exact exBool_e hc fun o es pos h => and_e h fun h1 h2 => of_decide_eq_true h1 ▸ fun m A env ρ Q H h hQ => wpAny_isTrue_BoolOp (snd_allAnd ihT es ps m Q h2 H hQ h)
  | bor ps => exact exBool_e hc fun o es pos h => and_e h fun h1 h2 => of_decide_eq_true h1 ▸ fun m A env ρ Q H h hQ => wpAny_isTrue_BoolOp (snd_allOr ihT es ps m Q h2 H hQ h)
  | ite t a b => exact exIf_e hc fun t x y pos h => and_e h fun h1 h => and_e h fun h2 h3 => st_ite (ihT _ _ _ _ h1) (ihT _ _ _ _ h2) (ihT _ _ _ _ h3)
  | cmp op a b => exact exCmp_e hc fun l os rs pos h => l1_e h fun o h => l1_e h fun r h => and_e h fun h1 h => and_e h fun h0 h => and_e h fun h2 h3 => of_decide_eq_true h1 ▸ st_cmp (not_e h0) (ihE _ _ _ _ h2) (ihE _ _ _ _ h3)
  | cmp2 o1 o2 a b d => exact exCmp_e hc fun l os rs pos h => l2_e h fun o1 o2 h => l2_e h fun r1 r2 h => and_e h fun h1 h => and_e h fun h2 h => and_e h fun h3 h => and_e h fun h4 h => and_e h fun h5 h => and_e h fun h6 h7 => of_decide_eq_true h1 ▸ of_decide_eq_true h2 ▸ st_cmp2 (not_e h3) (not_e h4) (ihE _ _ _ _ h5) (ihE _ _ _ _ h6) (ihE _ _ _ _ h7)
  | bad => exact fun m A env ρ Q H h => h.elim
  | frz i a => exact and_e hc fun h _ => st_value h1 fun env whole => isTrue_is h
  | _ => exact other rfl rfl

theorem expr_all (F : Facts c) (hC : CallsOk c C k) (n : Nat) : SE c C k n ∧ ST c C k n := by
  induction n with
  | zero => exact ⟨fun _ _ _ _ h => (nomatch h), fun _ _ _ _ h => (nomatch h)⟩
  | succ n ih => exact ⟨se_succ F hC ih.1 ih.2, st_succ (se_succ F hC ih.1 ih.2) ih.1 ih.2⟩
end
end Mine
namespace Mine
open PySem PyProof.V PyProof.Rows
set_option autoImplicit false
set_option linter.unusedVariables false
set_option maxRecDepth 100000
variable {c : Cx} {X X' X₁ : Vw} {σ σ' σ₁ : St} {A : Around} {s s₁ sc : Shared}

noncomputable def curOf (env : PySem.Env) : Addr → Prop := fun b => b = env.locals ∨ ∃ x, (env.kindOf x = some .cell ∨ env.kindOf x = some .free) ∧ env.cells.lookup x = some b

theorem EnvOk.alive {sm : Slots} {env : PySem.Env} {ρ : Mine.Env} (E : EnvOk c X σ sm env ρ) {b : Addr} (h : curOf env b) : ∃ o, X.h.get? b = some o := by
  rcases h with rfl | ⟨x, hk, hx⟩
  · obtain ⟨m, ⟨o, _, _, ho, _⟩, _⟩ := E.loc
    exact ⟨o, ho⟩
  · obtain ⟨a, u, g, ⟨o, ho, _⟩, _⟩ := E.cells x hk
    rw [hx] at g; cases g
    exact ⟨o, ho⟩
theorem EnvOk.touch {sm : Slots} {env : PySem.Env} {ρ : Mine.Env} {I : Addr} {h' : Heap} (E : EnvOk c X σ sm env ρ) (hf : ¬ X.Fz I) (hl : ¬ curOf env I) (hk : ∀ b o, b ≠ I → X.h.get? b = some o → h'.get? b = some o) : EnvOk c { X with h := h' } σ sm env ρ := by
  have L : Le X { X with h := h' } := ⟨Nat.le_refl _, fun _ _ => rfl, fun _ z => z, fun b o fz e => hk b o (fun z => hf (z ▸ fz)) e⟩
  obtain ⟨m, hn, hm⟩ := E.loc
  refine ⟨E.kind, E.glob, E.blt, ⟨m, hn.at' fun o e => hk _ o (fun z => hl (.inl z.symm)) e, fun x k pv q1 q2 q3 => ?_⟩, E.lf, fun x hx => ?_, E.apart⟩
  · obtain ⟨v, e1, e2⟩ := hm x k pv q1 q2 q3
    exact ⟨v, e1, VR.le L _ _ e2⟩
  · obtain ⟨a, u, g, ⟨o, ho, hd⟩, f, q, r⟩ := E.cells x hx
    refine ⟨a, u, g, ⟨o, hk a o (fun z => hl (.inr ⟨x, hx, z ▸ g⟩)) ho, hd⟩, f, q, fun k pv q1 q2 => ?_⟩
    obtain ⟨v, e1, e2⟩ := r k pv q1 q2
    exact ⟨v, e1, VR.le L _ _ e2⟩

noncomputable def isStoreKind : Option NameKind → Bool
  | some .local => true | some .cell => true | _ => false
noncomputable def chkStore (ns : Names) (sm : Slots) (x : PySem.Str) (k : Nat) : Bool := isStoreKind (ns.lookup x) && (sm.lookup x == some k)
noncomputable def SmInj (sm : Slots) : Prop := ∀ x y k, sm.lookup x = some k → sm.lookup y = some k → x = y

section
variable {ns : Names} {sm : Slots} {env : PySem.Env} {ρ : Mine.Env}
theorem EnvOk.locCell (E : EnvOk c X σ sm env ρ) {x : PySem.Str} {a : Addr} (h : env.kindOf x = some .cell ∨ env.kindOf x = some .free) (ha : env.cells.lookup x = some a) : a ≠ env.locals := by
  intro z
  obtain ⟨b, u, g, ⟨o, ho, hd⟩, _⟩ := E.cells x h
  rw [ha] at g
  cases g
  obtain ⟨m, ⟨o2, es, ep, ho2, hd2, _⟩, _⟩ := E.loc
  rw [z, ho2] at ho
  cases ho
  rw [hd2] at hd
  cases hd

theorem snd_store0 {x : PySem.Str} {k : Nat} {p : PV} {v : Value} (hinj : SmInj sm) (hX : X.h = s.heap) (R : Rel c X σ) (E : EnvOk c X σ sm env ρ) (hns : env.scope.names = ns) (hc : chkStore ns sm x k = true) (hv : VR c X p v) :
    wpAny (model c.prog c.w) A (storeName env x v) (fun _ s' => Post c (curOf env) X σ s σ (fun X' => Le X X' ∧ EnvOk c X' σ sm env (Mine.Env.put ρ k p)) s') NoE s := by
  obtain ⟨h1, h2⟩ := Bool.and_eq_true_iff.mp hc
  have h2 := eq_of_beq h2
  subst hns
  have hk : isStoreKind (env.kindOf x) = true := h1
  cases hkk : env.kindOf x with
  | none => rw [hkk] at hk; cases hk
  | some kd =>
    rw [hkk] at hk
    cases kd with
    | «local» =>
      obtain ⟨m, hn, hm⟩ := E.loc
      refine wpAny_storeName_local hkk (hX ▸ hn) (fun h' hn' hs' => ?_) (by rw [E.kind]; rfl)
      have kp : ∀ b o, b ≠ env.locals → X.h.get? b = some o → h'.get? b = some o := fun b o hb e => (hs'.2 b hb).trans (hX ▸ e)
      have L : Le X { X with h := h' } := ⟨Nat.le_refl _, fun _ _ => rfl, fun _ z => z, fun b o fz e => kp b o (fun z => E.lf.1 (z ▸ fz)) e⟩
      have al : ∀ b o, X.h.get? b = some o → ∃ o', h'.get? b = some o' := fun b o e => by
        by_cases z : b = env.locals
        · subst z; obtain ⟨o', _, _, ho', _⟩ := hn'; exact ⟨o', ho'⟩
        · exact ⟨o, kp b o z e⟩
      have N : Nx (curOf env) X σ { X with h := h' } σ := ⟨Nat.le_refl _, fun _ _ => rfl, fun _ z => z, fun _ z => .inl z, fun _ z => .inl z, al, fun b o fz e => L.kept b o fz e, fun b o e _ nc => kp b o (fun z => nc (.inl z)) e⟩
      refine ⟨{ X with h := h' }, rfl, ⟨h', _, rfl⟩, R.touch E.lf.1 E.lf.2 kp, N, L, ⟨E.kind, E.glob, E.blt, ⟨_, hn', fun y j pv q1 q2 q3 => ?_⟩, E.lf, fun y hy => ?_, E.apart⟩⟩
      · rcases get_put q2 with ⟨rfl, rfl⟩ | ⟨z, q2⟩
        · have := hinj y x _ q1 h2
          subst this
          exact ⟨v, by simp, VR.le L _ _ hv⟩
        · have ny : y ≠ x := fun e => by subst e; rw [h2] at q1; cases q1; exact z rfl
          obtain ⟨u, e1, e2⟩ := hm y j pv q1 q2 q3
          exact ⟨u, by simp [ny, e1], VR.le L _ _ e2⟩
      · obtain ⟨a, u, g, ⟨o, ho, hd⟩, f, q, r⟩ := E.cells y hy
        refine ⟨a, u, g, ⟨o, kp a o (E.locCell hy g) ho, hd⟩, f, q, fun j pv q1 q2 => ?_⟩
        rcases get_put q2 with ⟨rfl, rfl⟩ | ⟨z, q2⟩
        · have := hinj y x _ q1 h2
          subst this
          rcases hy with hy | hy <;> (rw [hkk] at hy; cases hy)
        · obtain ⟨v', e1, e2⟩ := r j pv q1 q2
          exact ⟨v', e1, VR.le L _ _ e2⟩
    | cell =>
      obtain ⟨a, u, g, hc, f, q, r⟩ := E.cells x (.inl hkk)
      refine wpAny_storeName_cell E.kind hkk g (hX ▸ hc) fun h' hc' hs' => ?_
      have kp : ∀ b o, b ≠ a → X.h.get? b = some o → h'.get? b = some o := fun b o hb e => (hs'.2 b hb).trans (hX ▸ e)
      have L : Le X { X with h := h' } := ⟨Nat.le_refl _, fun _ _ => rfl, fun _ z => z, fun b o fz e => kp b o (fun z => f (z ▸ fz)) e⟩
      have al : ∀ b o, X.h.get? b = some o → ∃ o', h'.get? b = some o' := fun b o e => by
        by_cases z : b = a
        · subst z; obtain ⟨o', ho', _⟩ := hc'; exact ⟨o', ho'⟩
        · exact ⟨o, kp b o z e⟩
      have N : Nx (curOf env) X σ { X with h := h' } σ := ⟨Nat.le_refl _, fun _ _ => rfl, fun _ z => z, fun _ z => .inl z, fun _ z => .inl z, al, fun b o fz e => L.kept b o fz e, fun b o e _ nc => kp b o (fun z => nc (.inr ⟨x, .inl hkk, z ▸ g⟩)) e⟩
      obtain ⟨m, hn, hm⟩ := E.loc
      refine ⟨{ X with h := h' }, rfl, ⟨h', _, rfl⟩, R.touch f q kp, N, L, ⟨E.kind, E.glob, E.blt, ⟨m, hn.at' fun o ho => kp _ o (E.locCell (.inl hkk) g).symm ho, fun y j pv q1 q2 q3 => ?_⟩, E.lf, fun y hy => ?_, E.apart⟩⟩
      · rcases get_put q2 with ⟨rfl, rfl⟩ | ⟨z, q2⟩
        · have := hinj y x _ q1 h2
          subst this
          rw [hkk] at q3; cases q3
        · obtain ⟨u', e1, e2⟩ := hm y j pv q1 q2 q3
          exact ⟨u', e1, VR.le L _ _ e2⟩
      · by_cases ny : y = x
        · subst ny
          refine ⟨a, _, g, hc', f, q, fun j pv q1 q2 => ?_⟩
          rw [h2] at q1; cases q1
          rcases get_put q2 with ⟨_, rfl⟩ | ⟨z, _⟩
          · exact ⟨v, rfl, VR.le L _ _ hv⟩
          · exact absurd rfl z
        · obtain ⟨b, u', g', ⟨o, ho, hd⟩, f', q', r'⟩ := E.cells y hy
          have nab : b ≠ a := fun z => ny (E.apart y x b g' (z ▸ g))
          refine ⟨b, u', g', ⟨o, kp b o nab ho, hd⟩, f', q', fun j pv q1 q2 => ?_⟩
          rcases get_put q2 with ⟨rfl, rfl⟩ | ⟨z, q2⟩
          · exact absurd (hinj y x _ q1 h2) ny
          · obtain ⟨v', e1, e2⟩ := r' j pv q1 q2
            exact ⟨v', e1, VR.le L _ _ e2⟩
    | free => cases hk
    | globalExplicit => cases hk
    | globalImplicit => cases hk

variable {k : Nat} {m n : Now c}
noncomputable def ON (c : Cx) (sm : Slots) (env : PySem.Env) (ρ : Mine.Env) {α : Type} (n : Now c) (_ : Unit) (_ : α) : Prop := EnvOk c n.X n.σ sm env ρ
theorem snd_store {x : PySem.Str} {j : Nat} {p : PV} {v : Value} {Q : Unit → St → Prop} (hinj : SmInj sm) (H : Here c k A m ns sm env ρ) (hc : chkStore ns sm x j = true) (hv : VR c m.X p v) (q : Q () m.σ) :
    wpAny (model c.prog c.w) A (storeName env x v) (Ends (curOf env) (ON c sm env (Mine.Env.put ρ j p)) m Q) NoE m.s :=
  wpAny_mono (snd_store0 hinj m.hX m.R H.ok H.names hc hv) (fun _ _ w => w.ends (fun n e z => (e.symm ▸ z.2 : EnvOk c n.X n.σ sm env (Mine.Env.put ρ j p))) q) fun _ _ z => z
theorem Here.toS {ρ' : Mine.Env} (H : Here c k A m ns sm env ρ) (E : EnvOk c n.X n.σ sm env ρ') : Here c k A n ns sm env ρ' := ⟨E, H.names, H.room⟩
theorem Here.alive (H : Here c k A m ns sm env ρ) {b : Addr} (h : m.X.h.get? b = none) : ¬ curOf env b := fun z => (H.ok.alive z).elim fun o e => nomatch h.symm.trans e
end

noncomputable def isComp (e : PySem.Expr) : Bool := e.ctorIdx == 8 || (e.ctorIdx == 9 || e.ctorIdx == 10)
noncomputable def isFrz (p : PE) : Bool := match p with
  | .frz .. => true | _ => false
noncomputable def tupOk (v : PySem.Expr) : Bool := match v with
  | .Tuple vs _ _ => vs.all (foldedForSure 8) || !vs.all (constantsAlone 8)
  | _ => true
noncomputable def nameIs (f : PySem.Str → Nat → Bool) (t : PySem.Expr) (x : Nat) : Bool := exName t fun y => f y x
noncomputable def chkTgts (ns : Names) (sm : Slots) (ts : List PySem.Expr) (xs : List Nat) : Bool := all2 (nameIs (chkStore ns sm)) ts xs && decide xs.Nodup
noncomputable def chkFz (ns : Names) (sm : Slots) (x : Nat) : Bool := sm.any fun p => (sm.lookup p.1 == some x) && isVarKind (ns.lookup p.1)
section
variable {e : Stmt} {P : Stmt → Prop} {R : Prop}
noncomputable def stAt (i : Nat) (e : Stmt) (k : e.ctorIdx = i → Bool) : Bool := if h : e.ctorIdx = i then k h else false
theorem stAt_e {i : Nat} {k : e.ctorIdx = i → Bool} (h : stAt i e k = true) (q : ∀ h, k h = true → R) : R := by
  unfold stAt at h
  by_cases hi : e.ctorIdx = i
  · rw [dif_pos hi] at h; exact q hi h
  · rw [dif_neg hi] at h; cases h
noncomputable def stAssign (e : Stmt) (k : List PySem.Expr → PySem.Expr → Bool) : Bool := stAt 5 e fun h => Stmt.Assign.elim (motive_2 := fun _ => Bool) e h fun ts v _ => k ts v
@[elab_as_elim] theorem stAssign_e {k : List PySem.Expr → PySem.Expr → Bool} (h : stAssign e k = true) (q : ∀ ts v pos, k ts v = true → P (.Assign ts v pos)) : P e :=
  stAt_e h fun hi => Stmt.Assign.elim (motive_2 := fun e => ∀ hi : e.ctorIdx = 5, Stmt.Assign.elim (motive_2 := fun _ => Bool) e hi (fun ts v _ => k ts v) = true → P e) e hi (fun ts v pos _ => q ts v pos) hi
noncomputable def stIf (e : Stmt) (k : PySem.Expr → List Stmt → List Stmt → Bool) : Bool := stAt 12 e fun h => Stmt.If.elim (motive_2 := fun _ => Bool) e h fun te b o _ => k te b o
@[elab_as_elim] theorem stIf_e {k : PySem.Expr → List Stmt → List Stmt → Bool} (h : stIf e k = true) (q : ∀ te b o pos, k te b o = true → P (.If te b o pos)) : P e :=
  stAt_e h fun hi => Stmt.If.elim (motive_2 := fun e => ∀ hi : e.ctorIdx = 12, Stmt.If.elim (motive_2 := fun _ => Bool) e hi (fun te b o _ => k te b o) = true → P e) e hi (fun te b o pos _ => q te b o pos) hi
noncomputable def stWhile (e : Stmt) (k : PySem.Expr → List Stmt → List Stmt → Bool) : Bool := stAt 11 e fun h => Stmt.While.elim (motive_2 := fun _ => Bool) e h fun te b o _ => k te b o
@[elab_as_elim] theorem stWhile_e {k : PySem.Expr → List Stmt → List Stmt → Bool} (h : stWhile e k = true) (q : ∀ te b o pos, k te b o = true → P (.While te b o pos)) : P e :=
  stAt_e h fun hi => Stmt.While.elim (motive_2 := fun e => ∀ hi : e.ctorIdx = 11, Stmt.While.elim (motive_2 := fun _ => Bool) e hi (fun te b o _ => k te b o) = true → P e) e hi (fun te b o pos _ => q te b o pos) hi
noncomputable def stFor (e : Stmt) (k : PySem.Expr → PySem.Expr → List Stmt → List Stmt → Bool) : Bool := stAt 9 e fun h => Stmt.For.elim (motive_2 := fun _ => Bool) e h fun tg it b o _ => k tg it b o
@[elab_as_elim] theorem stFor_e {k : PySem.Expr → PySem.Expr → List Stmt → List Stmt → Bool} (h : stFor e k = true) (q : ∀ tg it b o pos, k tg it b o = true → P (.For tg it b o pos)) : P e :=
  stAt_e h fun hi => Stmt.For.elim (motive_2 := fun e => ∀ hi : e.ctorIdx = 9, Stmt.For.elim (motive_2 := fun _ => Bool) e hi (fun tg it b o _ => k tg it b o) = true → P e) e hi (fun tg it b o pos _ => q tg it b o pos) hi
noncomputable def stReturn (e : Stmt) (k : Option PySem.Expr → Bool) : Bool := stAt 3 e fun h => Stmt.Return.elim (motive_2 := fun _ => Bool) e h fun v _ => k v
@[elab_as_elim] theorem stReturn_e {k : Option PySem.Expr → Bool} (h : stReturn e k = true) (q : ∀ v pos, k v = true → P (.Return v pos)) : P e :=
  stAt_e h fun hi => Stmt.Return.elim (motive_2 := fun e => ∀ hi : e.ctorIdx = 3, Stmt.Return.elim (motive_2 := fun _ => Bool) e hi (fun v _ => k v) = true → P e) e hi (fun v pos _ => q v pos) hi
noncomputable def stBreak (e : Stmt) (k : Bool) : Bool := stAt 26 e fun h => Stmt.Break.elim (motive_2 := fun _ => Bool) e h fun _ => k
@[elab_as_elim] theorem stBreak_e {k : Bool} (h : stBreak e k = true) (q : ∀ pos, k = true → P (.Break pos)) : P e :=
  stAt_e h fun hi => Stmt.Break.elim (motive_2 := fun e => ∀ hi : e.ctorIdx = 26, Stmt.Break.elim (motive_2 := fun _ => Bool) e hi (fun _ => k) = true → P e) e hi (fun pos _ => q pos) hi
noncomputable def stExpr (e : Stmt) (k : PySem.Expr → Bool) : Bool := stAt 24 e fun h => Stmt.Expr.elim (motive_2 := fun _ => Bool) e h fun v _ => k v
@[elab_as_elim] theorem stExpr_e {k : PySem.Expr → Bool} (h : stExpr e k = true) (q : ∀ v pos, k v = true → P (.Expr v pos)) : P e :=
  stAt_e h fun hi => Stmt.Expr.elim (motive_2 := fun e => ∀ hi : e.ctorIdx = 24, Stmt.Expr.elim (motive_2 := fun _ => Bool) e hi (fun v _ => k v) = true → P e) e hi (fun v pos _ => q v pos) hi
end
noncomputable def onFrz (p : PS) (a : Nat → Bool) (b : Bool) : Bool := match p with
  | .frz _ x => a x
  | _ => b
theorem chkP_e {p : PS} {a : Nat → Bool} {b : Bool} {R : Prop} (h : onFrz p a b = true) (q1 : ∀ j x, p = .frz j x → a x = true → R) (q2 : b = true → R) : R := by
  cases p with
  | frz j x => exact q1 j x rfl h
  | _ => exact q2 h
noncomputable def chkL (fz : Nat → Bool) (f : Stmt → PS → Bool) : List PS → List Stmt → Bool
  | [] => fun st => st.isEmpty
  | p :: pr => fun st => onFrz p (fun x => fz x && chkL fz f pr st) (match st with | [] => false | s :: sr => f s p && chkL fz f pr sr)
section
variable (f : Stmt → PS → Bool) (g : Names → Slots → PySem.Expr → PE → Bool) (ns : Names) (sm : Slots) (s : Stmt)
noncomputable def chkB (b : List Stmt) (ps : List PS) : Bool := chkL (chkFz ns sm) f ps b
noncomputable def chkTo (k : PySem.Expr → PySem.Expr → Bool) : Bool := stAssign s fun ts v => l1 ts fun t => k t v
noncomputable def chkSS (p : PS) : Bool := match p with
  | .assign x e => chkTo s fun t v => exName t fun y => chkStore ns sm y x && (!(isComp v && isFrz e) && g ns sm v e)
  | .assignT xs e => chkTo s fun t v => exTup t fun ts => chkTgts ns sm ts xs && (tupOk v && g ns sm v e)
  | .setAttr o a e => chkTo s fun t v => exAttr t fun ov y _ => decide (y = a.str) && (g ns sm ov o && g ns sm v e)
  | .setSub o i e => chkTo s fun t v => exSub t fun ov iv => !isSlice iv && (g ns sm ov o && (g ns sm iv i && g ns sm v e))
  | .setSlice o lo hi e => chkTo s fun t v => exSub t fun ov iv => exSlice iv fun l h st => oNone st && (g ns sm ov o && (chkOpt (g ns sm) l lo && (chkOpt (g ns sm) h hi && g ns sm v e)))
  | .ifs c t u => stIf s fun te b o => g ns sm te c && (chkB f ns sm b t && chkB f ns sm o u)
  | .whiles c b => stWhile s fun te body o => o.isEmpty && (g ns sm te c && chkB f ns sm body b)
  | .fors x it b => stFor s fun tg ie body o => o.isEmpty && exName tg fun y => chkStore ns sm y x && (!isSet ie && (g ns sm ie it && chkB f ns sm body b))
  | .forsT xs it b => stFor s fun tg ie body o => o.isEmpty && exTup tg fun ts => chkTgts ns sm ts xs && (!isSet ie && (g ns sm ie it && chkB f ns sm body b))
  | .ret e => stReturn s fun v => chkOpt (g ns sm) v e
  | .brk => stBreak s true
  | .expr e => stExpr s fun v => !isComp v && g ns sm v e
  | .frz _ _ => false
end
noncomputable def chkS : Nat → Names → Slots → Stmt → PS → Bool
  | 0 => fun _ _ _ _ => false
  | n + 1 => fun ns sm => chkSS (chkS n ns sm) (chkE n) ns sm
end Mine
namespace Mine
open PySem PyProof.V PyProof.Rows
set_option autoImplicit false
set_option linter.unusedVariables false
set_option maxRecDepth 100000
variable {c : Cx} {A : Around} {m n : Now c}

noncomputable def FlR (c : Cx) (X : Vw) (fl : Fl) (f : Flow) : Prop := match fl with
  | .next => f = .next
  | .brk => f = .brk
  | .ret p => ∃ v, f = .ret v ∧ VR c X p v
section
variable {k n : Nat} {ns : Names} {sm : Slots} {env : PySem.Env} {ρ : Mine.Env}

noncomputable def Stores (c : Cx) (A : Around) (env : PySem.Env) (f : Value → Sem Unit) (x : PySem.Str) : Prop := ∀ (v : Value) (Q : Unit → Shared → Prop) (s : Shared), wpAny (model c.prog c.w) A (storeName env x v) Q NoE s → wpAny (model c.prog c.w) A (f v) Q NoE s
noncomputable def Stored (c : Cx) (A : Around) (env : PySem.Env) (ns : Names) (sm : Slots) (f : Value → Sem Unit) (j : Nat) : Prop := ∃ x, Stores c A env f x ∧ chkStore ns sm x j = true
noncomputable def StL (c : Cx) (A : Around) (env : PySem.Env) (ns : Names) (sm : Slots) : List (Value → Sem Unit) → List Nat → Prop
  | [], xs => xs = []
  | f :: fs, xs => ∃ j ys, xs = j :: ys ∧ Stored c A env ns sm f j ∧ StL c A env ns sm fs ys
theorem StL.append {fs gs : List (Value → Sem Unit)} : ∀ {xs ys : List Nat}, StL c A env ns sm fs xs → StL c A env ns sm gs ys → StL c A env ns sm (fs ++ gs) (xs ++ ys) := by
  induction fs with
  | nil => intro xs ys h g; cases h; exact g
  | cons f fs ih =>
    intro xs ys h g
    obtain ⟨j, xs, rfl, h1, h2⟩ := h
    exact ⟨j, xs ++ ys, rfl, h1, ih h2 g⟩
theorem StL.rev {fs : List (Value → Sem Unit)} : ∀ {xs : List Nat}, StL c A env ns sm fs xs → StL c A env ns sm fs.reverse xs.reverse := by
  induction fs with
  | nil => intro xs h; cases h; rfl
  | cons f fs ih =>
    intro xs h
    obtain ⟨j, xs, rfl, h1, h2⟩ := h
    rw [List.reverse_cons, List.reverse_cons]
    exact (ih h2).append ⟨j, [], rfl, h1, rfl⟩
theorem snd_stores (hinj : SmInj sm) (fs : List (Value → Sem Unit)) : ∀ (xs : List Nat) (ps : List PV) (vs : List Value) (m : Now c) (ρ : Mine.Env) (Q : Unit → St → Prop), StL c A env ns sm fs xs → ps.length = xs.length →
    Here c k A m ns sm env ρ → VRs c m.X ps vs → Q () m.σ → wpAny (model c.prog c.w) A (assignInOrder fs vs) (Ends (curOf env) (ON c sm env (Mine.Env.putAll ρ xs ps)) m Q) NoE m.s := by
  induction fs with
  | nil =>
    intro xs ps vs m ρ Q hs hl H hv q
    cases hs
    cases ps with
    | cons => cases hl
    | nil => cases hv; exact wpAny_pure (Ends.ret (r := ()) H.ok q)
  | cons f fs ih =>
    intro xs ps vs m ρ Q hs hl H hv q
    obtain ⟨j, xs, rfl, ⟨x, hf, hc⟩, hs⟩ := hs
    cases ps with
    | nil => cases hl
    | cons p ps =>
      obtain ⟨v, us, rfl, hv1, hv2⟩ := hv
      refine wpAny_bind (wpAny_holding (hf v _ _ (sub (snd_store hinj H hc hv1 q) fun _ n _ t E q => ?_)))
      exact fin t (ih xs ps us n _ Q hs (Nat.succ.inj hl) (H.toS E) (VRs.le t.le _ _ hv2) q)

noncomputable def tgtNames : List PySem.Expr → List PySem.Str
  | [] => []
  | t :: r => match t with
    | .Name y _ => y :: tgtNames r
    | _ => tgtNames r
structure Tgts (c : Cx) (A : Around) (env : PySem.Env) (ns : Names) (sm : Slots) (ts : List PySem.Expr) (xs : List Nat) : Prop where
  len : (tgtNames ts).length = ts.length
  lenX : xs.length = ts.length
  lenA : (assignEach ts env).length = ts.length
  noStar : (assignEach ts env).findIdx? (·.1) = none
  stores : StL c A env ns sm ((assignEach ts env).map (·.2)) xs
  binds : StL c A env ns sm ((tgtNames ts).map fun n => bindName env n) xs
theorem tgt_facts (ts : List PySem.Expr) : ∀ (xs : List Nat), all2 (nameIs (chkStore ns sm)) ts xs = true → Tgts c A env ns sm ts xs := by
  induction ts with
  | nil => exact fun xs h => all2_nil h ⟨rfl, rfl, rfl, rfl, rfl, rfl⟩
  | cons t ts ih =>
    refine fun xs h => all2_cons h fun x xs h1 h => ?_
    have T := ih xs h
    refine exName_e h1 fun y pos h1 => ?_
    have e : assignEach (.Name y pos :: ts) env = (false, assign (.Name y pos) env) :: assignEach ts env := rfl
    refine ⟨congrArg Nat.succ T.len, congrArg Nat.succ T.lenX, by rw [e]; exact congrArg Nat.succ T.lenA, by rw [e, List.findIdx?_cons, T.noStar]; rfl, ?_, x, xs, rfl, ⟨y, fun v Q s h => wpAny_bindName h, h1⟩, T.binds⟩
    rw [e]
    exact ⟨x, xs, rfl, ⟨y, fun v Q s h => wpAny_assign_Name h, h1⟩, T.stores⟩

theorem items_is {m : Nat} {p : PV} {ps : List PV} (h : itemsN m p = some ps) : p = .tup ps ∧ ps.length = m := by
  cases p with
  | tup vs =>
    obtain ⟨hl, rfl⟩ := if_some' h
    exact ⟨rfl, hl⟩
  | _ => exact no h

theorem ext_kept {s : Shared} {h : Heap} (he : Heap.ExtBut s.heap.objs.size s.heap h) : ∀ b o, s.heap.get? b = some o → h.get? b = some o := fun b o e => he b o (fun z => by rw [z, Heap.get?_none_of_le (Nat.le_refl _)] at e; cases e) e

theorem snd_assignTup {ts : List PySem.Expr} {xs : List Nat} {x1 : Nat} {pos : Pos} {p : PV} {ps : List PV} {v : Value} {Q : Unit → St → Prop} (hinj : SmInj sm) (hc : chkTgts ns sm ts xs = true) (H : Here c k A m ns sm env ρ) (hv : VR c m.X p v) (hi : itemsN xs.length p = some ps) (q : Q () m.σ) :
    wpAny (model c.prog c.w) A (assign (.Tuple ts x1 pos) env v) (Ends (curOf env) (ON c sm env (Mine.Env.putAll ρ xs ps)) m Q) NoE m.s := by
  have T := and_e hc fun h _ => tgt_facts (c := c) (A := A) (env := env) ts xs h
  obtain ⟨rfl, hl⟩ := items_is hi
  refine hv.tup_e fun t vs fz ht hn hvs => ?_
  refine wpAny_assign_Tuple H.room.handled (m.hX ▸ ht) (by rw [T.lenA, ← T.lenX, List.size_toArray, hvs.length, hl]) T.noStar fun h' he => ?_
  have G : To (curOf env) m (m.grow h' (ext_kept he)) := To.grow
  exact fin G (snd_stores hinj _ xs ps vs (m.grow h' (ext_kept he)) ρ Q T.stores hl (H.to To.grow) (VRs.le G.le _ _ hvs) q)

theorem put_comm {ρ : Mine.Env} {a b : Nat} {v u : PV} (h : a ≠ b) : (ρ.put a v).put b u = (ρ.put b u).put a v := List.set_comm _ _ h
theorem putAll_rev {xs : List Nat} {ps : List PV} (hn : xs.Nodup) (hl : ps.length = xs.length) (h2 : xs.length = 2 ∨ xs.length = 3) : Mine.Env.putAll ρ xs.reverse ps.reverse = Mine.Env.putAll ρ xs ps := by
  match xs, ps, hl, h2, hn with
  | [a, b], [v, u], _, _, hn =>
    simp at hn
    show (ρ.put b u).put a v = (ρ.put a v).put b u
    exact (put_comm hn).symm
  | [a, b, d], [v, u, w], _, _, hn =>
    simp at hn
    obtain ⟨⟨h1, h2⟩, h3⟩ := hn
    show ((ρ.put d w).put b u).put a v = ((ρ.put a v).put b u).put d w
    rw [put_comm (ρ := ρ.put a v) h3, put_comm (ρ := ρ) h2, put_comm (ρ := ρ.put d w) h1]
  | [], _, _, h, _ => simp at h
  | [_], _, _, h, _ => simp at h
  | _ :: _ :: _ :: _ :: _, _, _, h, _ => simp at h
  | [_, _], [], h, _, _ => simp at h
  | [_, _], [_], h, _, _ => simp at h
  | [_, _], _ :: _ :: _ :: _, h, _, _ => simp at h
  | [_, _, _], [], h, _, _ => simp at h
  | [_, _, _], [_], h, _, _ => simp at h
  | [_, _, _], [_, _], h, _, _ => simp at h
  | [_, _, _], _ :: _ :: _ :: _ :: _, h, _, _ => simp at h

theorem swapped_is {ts : List PySem.Expr} {xs : List Nat} {k1 : Nat} {p1 : Pos} {v : PySem.Expr} {f : PySem.Str → Nat → Bool} (hc : all2 (nameIs f) ts xs = true) (hv : tupOk v = true) :
    swappedStores [.Tuple ts k1 p1] v env = pure none ∨ (swappedStores [.Tuple ts k1 p1] v env = pure (some (tgtNames ts)) ∧ (ts.length = 2 ∨ ts.length = 3)) := by
  cases v with
  | Tuple vs k2 p2 =>
    have hnm : ∀ (ln : Nat) (ts : List PySem.Expr) (xs : List Nat), all2 (nameIs f) ts xs = true → (ts.filterMap fun t => match t with | .Name id pos => if env.kindOf id == some .local && pos.line == ln then some id else none | _ => none).length ≤ ts.length ∧
        ((ts.filterMap fun t => match t with | .Name id pos => if env.kindOf id == some .local && pos.line == ln then some id else none | _ => none).length = ts.length →
        (ts.filterMap fun t => match t with | .Name id pos => if env.kindOf id == some .local && pos.line == ln then some id else none | _ => none) = tgtNames ts) := by
      intro ln ts
      induction ts with
      | nil => intro _ _; exact ⟨Nat.le_refl _, fun _ => rfl⟩
      | cons t r ih =>
        intro xs h
        cases xs with
        | nil => cases h
        | cons x xs =>
          refine and_e h fun h1 h => ?_
          obtain ⟨i1, i2⟩ := ih xs h
          refine exName_e h1 fun y pos _ => ?_
          by_cases q : (env.kindOf y == some .local && pos.line == ln) = true
          · simp only [List.filterMap_cons, q, if_true, List.length_cons, tgtNames]
            exact ⟨by with_reducible exact O.a34c (by assumption), fun z => by rw [i2 (by omega)]⟩
          · simp only [List.filterMap_cons, q, Bool.false_eq_true, if_false, List.length_cons, tgtNames]
            exact ⟨by with_reducible exact O.a34 (by assumption), fun z => by omega⟩
    unfold swappedStores
    simp only
    split
    · exact .inl rfl
    · rename_i c1
      split
      · exact .inl rfl
      · split
        · exact .inl rfl
        · rename_i c3
          split
          · exact .inl rfl
          · rename_i c4
            split
            · rename_i c5
              unfold tupOk at hv
              simp only [Bool.or_eq_true, Bool.not_eq_true'] at hv
              exact absurd hv (by simp [c4, c5])
            · refine .inr ⟨?_, ?_⟩
              · simp only [Bool.or_eq_true, bne_iff_ne, ne_eq, not_or, Decidable.not_not] at c3
                obtain ⟨_, z⟩ := hnm ((ts.head?.map (·.pos.line)).getD 0) ts xs hc
                exact congrArg (fun l => (pure (some l) : Sem (Option (List PySem.Str)))) (z c3.1)
              · simp only [Bool.or_eq_true, Bool.not_eq_true', bne_iff_ne, ne_eq, not_or] at c1
                have := c1.1.1
                simp at this
                with_reducible exact O.a20 (by assumption)
  | _ => exact .inl rfl
end
end Mine
namespace Mine
open PySem PyProof.V PyProof.Rows
set_option autoImplicit false
set_option linter.unusedVariables false
set_option maxRecDepth 100000
variable {c : Cx} {A : Around} {m n : Now c} {X : Vw} {σ : St}

noncomputable def FlE (c : Cx) (sm : Slots) (env : PySem.Env) (n : Now c) (r : Fl × Mine.Env) (f : Flow) : Prop := FlR c n.X r.1 f ∧ EnvOk c n.X n.σ sm env r.2
noncomputable def SS1 (c : Cx) (C : Fn → List PV → B.M PV) (k : Nat) (ns : Names) (sm : Slots) (st : Stmt) (p : PS) : Prop :=
  ∀ (m : Now c) (A : Around) (env : PySem.Env) (ρ : Mine.Env) (Q : Fl × Mine.Env → St → Prop), Here c k A m ns sm env ρ → B.W (B.execS C p ρ) m.σ Q → wpAny (model c.prog c.w) A (exec st env) (Ends (curOf env) (FlE c sm env) m Q) NoE m.s
noncomputable def SS (c : Cx) (C : Fn → List PV → B.M PV) (k n : Nat) : Prop := ∀ (ns : Names) (sm : Slots) (st : Stmt) (p : PS), chkS n ns sm st p = true → SmInj sm → SS1 c C k ns sm st p

section
variable {C : Fn → List PV → B.M PV} {k n : Nat} {ns : Names} {sm : Slots} {env : PySem.Env} {ρ ρ' : Mine.Env} {fl : Fl}
theorem EnvOk.frz {x : Nat} {y : PySem.Str} {p : PV} (E : EnvOk c X σ sm env ρ) (hinj : SmInj sm) (hy : sm.lookup y = some x) (hk : isVarKind (env.kindOf y) = true) (hp : ρ.get x = some p) :
    ∃ v, VR c X p v ∧ ∀ X₂ σ₂ p', X₂.h = X.h → Nx none' X σ X₂ σ₂ → VR c X₂ p' v → EnvOk c X₂ σ₂ sm env (Mine.Env.put ρ x p') := by
  have vcell : (env.kindOf y = some .cell ∨ env.kindOf y = some .free) → ∃ a v, env.cells.lookup y = some a ∧ X.h.IsCell a (some v) ∧ VR c X p v := fun hy' => by
    obtain ⟨a, u, g, hc, f, q, r⟩ := E.cells y hy'
    obtain ⟨v, e1, e2⟩ := r x p hy hp
    subst e1
    exact ⟨a, v, g, hc, e2⟩
  obtain ⟨m, hn, hm⟩ := E.loc
  have key : ∀ v, (env.kindOf y = some .local → m y = some v) → (∀ a u, (env.kindOf y = some .cell ∨ env.kindOf y = some .free) → env.cells.lookup y = some a → X.h.IsCell a u → u = some v) → ∀ X₂ σ₂ p', X₂.h = X.h → Nx none' X σ X₂ σ₂ → VR c X₂ p' v → EnvOk c X₂ σ₂ sm env (Mine.Env.put ρ x p') := by
    intro v k1 k2 X₂ σ₂ p' e N hv
    have E₂ := E.next N
    refine ⟨E.kind, E.glob, E.blt, ⟨m, e ▸ hn, fun z k pv q1 q2 q3 => ?_⟩, E₂.lf, fun z hz => ?_, E.apart⟩
    · rcases get_put q2 with ⟨rfl, rfl⟩ | ⟨_, q2⟩
      · have := hinj z y _ q1 hy
        subst this
        exact ⟨v, k1 q3, hv⟩
      · obtain ⟨u, e1, e2⟩ := hm z k pv q1 q2 q3
        exact ⟨u, e1, VR.le N.le _ _ e2⟩
    · obtain ⟨a, u, g, hc, f, q, r⟩ := E.cells z hz
      obtain ⟨a', u', g', hc', f', q', r'⟩ := E₂.cells z hz
      rw [g] at g'; cases g'
      refine ⟨a, u, g, e ▸ hc, f', q', fun k pv q1 q2 => ?_⟩
      rcases get_put q2 with ⟨rfl, rfl⟩ | ⟨_, q2⟩
      · have := hinj z y _ q1 hy
        subst this
        exact ⟨v, k2 a u hz g hc, hv⟩
      · obtain ⟨u1, e1, e2⟩ := r k pv q1 q2
        exact ⟨u1, e1, VR.le N.le _ _ e2⟩
  have cellu : ∀ {a u u'}, X.h.IsCell a u → X.h.IsCell a u' → u = u' := fun ⟨o, ho, hd⟩ ⟨o', ho', hd'⟩ => by
    rw [ho] at ho'; cases ho'
    rw [hd] at hd'
    cases hd'; rfl
  cases hkk : env.kindOf y with
  | none => rw [hkk] at hk; cases hk
  | some kd =>
    cases kd with
    | «local» =>
      obtain ⟨v, e1, e2⟩ := hm y x p hy hp hkk
      exact ⟨v, e2, key v (fun _ => e1) fun a u z => by rcases z with z | z <;> (rw [hkk] at z; cases z)⟩
    | cell =>
      obtain ⟨a, v, g, hc, hv⟩ := vcell (.inl hkk)
      exact ⟨v, hv, key v (fun z => by rw [hkk] at z; cases z) fun a' u _ g' hc' => by rw [g] at g'; cases g'; exact cellu hc' hc⟩
    | free =>
      obtain ⟨a, v, g, hc, hv⟩ := vcell (.inr hkk)
      exact ⟨v, hv, key v (fun z => by rw [hkk] at z; cases z) fun a' u _ g' hc' => by rw [g] at g'; cases g'; exact cellu hc' hc⟩
    | globalExplicit => rw [hkk] at hk; cases hk
    | globalImplicit => rw [hkk] at hk; cases hk
theorem chkFz_is {x : Nat} (h : chkFz ns sm x = true) : ∃ y, sm.lookup y = some x ∧ isVarKind (ns.lookup y) = true := by
  obtain ⟨p, _, h⟩ := List.any_eq_true.mp h
  exact and_e h fun h1 h2 => ⟨p.1, eq_of_beq h1, h2⟩
theorem chkL_cons {fz : Nat → Bool} {f : Stmt → PS → Bool} {p : PS} {pr : List PS} {st : List Stmt} {R : Prop} (h : chkL fz f (p :: pr) st = true) (q1 : ∀ j x, p = .frz j x → fz x = true → chkL fz f pr st = true → R) (q2 : ∀ s sr, st = s :: sr → f s p = true → chkL fz f pr sr = true → R) : R :=
  chkP_e h (fun j x e h => and_e h fun h1 h2 => q1 j x e h1 h2) fun h => by
    cases st with
    | nil => cases h
    | cons s sr => exact and_e h fun h1 h2 => q2 s sr rfl h1 h2
theorem snd_frz {j x : Nat} {Q : Fl × Mine.Env → St → Prop} {R : Prop} (hinj : SmInj sm) (hc : chkFz ns sm x = true) (H : Here c k A m ns sm env ρ) (h : B.W (B.execS C (.frz j x) ρ) m.σ Q) (q : ∀ (n : Now c) r, n.s = m.s → To none' m n → Here c k A n ns sm env (Mine.Env.put ρ x r) → Q (.next, Mine.Env.put ρ x r) n.σ → R) : R := by
  refine B.M.Got_e (o := ρ.get x) (σ := m.σ) (Q := B.kFz1 j ρ x Q) h fun v e h => ?_
  obtain ⟨y, hy, hk⟩ := chkFz_is hc
  obtain ⟨u, hu, fz⟩ := H.ok.frz hinj hy (H.kindOf y ▸ hk) e
  obtain ⟨n, r, es, t, g, h⟩ := freeze_ok j m v u (B.kFz2 ρ x Q) hu h
  exact q n r es t (H.toS (fz n.X n.σ r (n.hX.trans (es ▸ m.hX.symm)) t.nx g)) h
theorem snd_list (ihS : SS c C k n) (hinj : SmInj sm) (ps : List PS) : ∀ (st : List Stmt) (m : Now c) (ρ : Mine.Env) (Q : Fl × Mine.Env → St → Prop), chkL (chkFz ns sm) (chkS n ns sm) ps st = true →
    Here c k A m ns sm env ρ → B.W (B.execL C ps ρ) m.σ Q → wpAny (model c.prog c.w) A (execs st env) (Ends (curOf env) (FlE c sm env) m Q) NoE m.s := by
  induction ps with
  | nil => exact fun st m ρ Q hc H h => empty_e hc (wpAny_execs_nil (Ends.ret (r := (Fl.next, ρ)) ⟨rfl, H.ok⟩ h))
  | cons p pr ih =>
    intro st m ρ Q hc H h
    have h : B.W (B.execS C p ρ) m.σ (B.After C pr Q) := h
    refine chkL_cons hc (fun j x e c1 c2 => ?_) fun s sr e c1 c2 => ?_
    · subst e
      exact snd_frz hinj c1 H h fun n r es t H h => es ▸ fin t.any (ih st n _ Q c2 H h)
    · subst e
      refine wpAny_execs_cons (sub (ihS _ _ _ _ c1 hinj m A env ρ (B.After C pr Q) H h) fun f n r t g h => ?_)
      obtain ⟨fl, ρ'⟩ := r
      obtain ⟨g1, g2⟩ := g
      cases fl with
      | next => cases g1; exact fin t (ih sr n ρ' Q c2 (H.toS g2) h)
      | brk => cases g1; exact Ends.to t (Ends.ret (r := (Fl.brk, ρ')) ⟨rfl, g2⟩ h)
      | ret p => obtain ⟨v, rfl, hv⟩ := g1; exact Ends.to t (Ends.ret (r := (Fl.ret p, ρ')) ⟨⟨v, rfl, hv⟩, g2⟩ h)
end
end Mine
namespace Mine
open PySem PyProof.V PyProof.Rows
set_option autoImplicit false
set_option linter.unusedVariables false
set_option maxRecDepth 100000
variable {c : Cx} {A : Around} {m n : Now c}

section
variable {C : Fn → List PV → B.M PV} {k n : Nat} {ns : Names} {sm : Slots} {env : PySem.Env} {ρ ρ' : Mine.Env} {fl : Fl}
@[elab_as_elim] theorem turn_e {m m' n : Now c} {r : Fl × Mine.Env} {f : Flow} {I : Mine.Env → St → Prop} {Q : Fl × Mine.Env → St → Prop} {R : Flow → Prop} (t : To (curOf env) m n) (H : Here c k A m' ns sm env ρ) (g : FlE c sm env n r f) (h : B.Turn I Q r n.σ)
    (q1 : ∀ ρ', Here c k A n ns sm env ρ' → I ρ' n.σ → R .next) (q2 : Ends (curOf env) (FlE c sm env) m Q .next n.s → R .brk) (q3 : ∀ v, Ends (curOf env) (FlE c sm env) m Q (.ret v) n.s → R (.ret v)) : R f := by
  obtain ⟨fl, ρ'⟩ := r
  obtain ⟨g1, g2⟩ := g
  cases fl with
  | next => cases g1; exact q1 ρ' (H.toS g2) h
  | brk => cases g1; exact q2 (Ends.to t (Ends.ret (r := (Fl.next, ρ')) ⟨rfl, g2⟩ h))
  | ret p => obtain ⟨v, rfl, hv⟩ := g1; exact q3 v (Ends.to t (Ends.ret (r := (Fl.ret p, ρ')) ⟨⟨v, rfl, hv⟩, g2⟩ h))

theorem snd_while {te : PySem.Expr} {body : List Stmt} {pos : Pos} {pc : PE} {pb : List PS} (ihT : ST c C k n) (ihS : SS c C k n) (hinj : SmInj sm) (hc : chkE n ns sm te pc = true) (hb : chkL (chkFz ns sm) (chkS n ns sm) pb body = true) : SS1 c C k ns sm (.While te body [] pos) (.whiles pc pb) := fun m A env ρ Q H h => by
  obtain ⟨I, N, _, hI, step⟩ := B.Loops.out h
  refine wpAny_While (codeAny_whileLoop (fun cnt s₁ => ∃ (n : Now c) (ρ₁ : Mine.Env), n.s = s₁ ∧ To (curOf env) m n ∧ Here c k A n ns sm env ρ₁ ∧ I cnt ρ₁ n.σ) (fun cnt s₁ hI => ?_) N ⟨m, ρ, rfl, To.refl m, H, hI⟩)
  obtain ⟨n, ρ₁, rfl, T, H, hI⟩ := hI
  refine sub (ihT _ _ _ _ hc n A env ρ₁ _ H (step cnt ρ₁ n.σ hI) fun r σ' h => B.WT.any h) fun b n₂ r t g h => ?_
  have T₂ := T.trans t.any
  cases b with
  | false => exact wpAny_execs_nil (Ends.to T₂ (Ends.ret (r := (Fl.next, ρ₁)) ⟨rfl, (H.to t).ok⟩ (B.WT.f g h)))
  | true =>
    obtain ⟨h0, h⟩ := B.WT.t g h
    refine sub (snd_list ihS hinj pb body n₂ ρ₁ (B.Turn (I (cnt - 1)) Q) hb (H.to t) h) fun f n₃ r t₃ g h => ?_
    exact turn_e (T₂.trans t₃) H g h (fun ρ' H' h => ⟨cnt - 1, Nat.sub_one_lt_of_lt h0, n₃, ρ', rfl, T₂.trans t₃, H', h⟩) (fun z => z) fun v z => z

variable {w : Nat}
structure Fr (c : Cx) (A : Around) (m : Now c) (I : Addr) (ps : List PV) (fp : List Addr) (P : Nat → Value → Prop) (Sx : Nat → Heap → Prop) : Prop where
  it : Iter c A m.X I ps fp P Sx
  i0 : m.X.h.get? I = none
noncomputable def Binds (c : Cx) (k : Nat) (A : Around) (ns : Names) (sm : Slots) (env : PySem.Env) (tg : PySem.Expr) (bd : PV → Mine.Env → B.M (Fl × Mine.Env)) (C : Fn → List PV → B.M PV) (pb : List PS) : Prop :=
  ∀ (m : Now c) (ρ : Mine.Env) (p : PV) (v : Value) (Q : Fl × Mine.Env → St → Prop), Here c k A m ns sm env ρ → VR c m.X p v → B.W (bd p ρ) m.σ Q →
    wpAny (model c.prog c.w) A (assign tg env v) (Ends (curOf env) (fun n ρ₁ (_ : Unit) => EnvOk c n.X n.σ sm env ρ₁) m fun ρ₁ σ => B.W (B.execL C pb ρ₁) σ Q) NoE m.s
theorem Here.touch {n : Now c} {a : Addr} {o : Out n.X n.σ a} {h' : Heap} {t : Tok} {hk : ∀ b ob, b ≠ a → n.X.h.get? b = some ob → h'.get? b = some ob} (H : Here c k A n ns sm env ρ) (hc : ¬ curOf env a) : Here c k A (n.touch o h' t hk) ns sm env ρ := ⟨H.ok.touch o.2.1 hc hk, H.names, H.room⟩
variable {tg : PySem.Expr} {body : List Stmt} {pb : List PS} {bd : PV → Mine.Env → B.M (Fl × Mine.Env)} {I : Addr} {ps : List PV} {fp : List Addr} {P : Nat → Value → Prop} {Sx : Nat → Heap → Prop}
structure ForAt (m n : Now c) (I : Addr) (Sx : Nat → Heap → Prop) (bd : PV → Mine.Env → B.M (Fl × Mine.Env)) (ps : List PV) (Q : Fl × Mine.Env → St → Prop) (ρ : Mine.Env) (i : Nat) (env : PySem.Env) : Prop where
  to : To (curOf env) m n
  out : Out n.X n.σ I
  it : Sx i n.X.h
  run : B.W (B.forL bd (ps.drop i) ρ) n.σ Q
theorem for_body {m n : Now c} {i : Nat} {v : Value} {p : PV} {Q : Fl × Mine.Env → St → Prop} {E : Value → Shared → Prop} {G : Flow → Shared → Prop} (ihS : SS c C k w) (hinj : SmInj sm) (hb : chkL (chkFz ns sm) (chkS w ns sm) pb body = true) (hst : Binds c k A ns sm env tg bd C pb)
    (L : Fr c A m I ps fp P Sx) (hcI : ¬ curOf env I) (T : To (curOf env) m n) (oI : Out n.X n.σ I) (hS : Sx (i + 1) n.X.h) (H : Here c k A n ns sm env ρ) (hv : VR c n.X p v) (h : B.W (bd p ρ) n.σ fun q σ' => B.W (B.turnM (B.forL bd (ps.drop (i + 1))) q) σ' Q)
    (q1 : ∀ n' ρ', Here c k A n' ns sm env ρ' → ForAt m n' I Sx bd ps Q ρ' (i + 1) env → G .next n'.s) (q2 : ∀ s, Ends (curOf env) (FlE c sm env) m Q .next s → G .brk s) (q3 : ∀ v s, Ends (curOf env) (FlE c sm env) m Q (.ret v) s → G (.ret v) s) :
    wpAny (model c.prog c.w) A (assign tg env v) (fun _ s₂ => wpAny (model c.prog c.w) A (execs body env) (fun f s₃ => G f s₃) E s₂) E n.s := by
  refine sub (hst n ρ p v _ H hv h) fun _ n₁ ρ₁ t₁ g h => ?_
  have H₁ := H.toS g
  refine sub (snd_list ihS hinj pb body n₁ ρ₁ (B.Turn (fun ρ' σ' => B.W (B.forL bd (ps.drop (i + 1)) ρ') σ' Q) Q) hb H₁ ((B.execL C pb ρ₁).mono _ _ _ (fun a σ' w => ?_) h)) fun f n₂ r t₂ g h => ?_
  · obtain ⟨fl, ρ'⟩ := a
    cases fl <;> exact w
  · have t := t₁.trans t₂
    have T₂ := T.trans t
    have hS₂ : Sx (i + 1) n₂.X.h := (L.it.le T.le).stay oI hS t.nx hcI
    exact turn_e T₂ H₁ g h (fun ρ' H' h => q1 n₂ ρ' H' ⟨T₂, oI.next t.nx, hS₂, h⟩) (fun z => q2 _ z) fun v z => q3 v _ z
theorem for_loop {m n : Now c} {Q : Fl × Mine.Env → St → Prop} {RR : Result → Shared → Prop} (ihS : SS c C k w) (hinj : SmInj sm) (hb : chkL (chkFz ns sm) (chkS w ns sm) pb body = true) (hst : Binds c k A ns sm env tg bd C pb)
    (L : Fr c A m I ps fp P Sx) (hcI : ¬ curOf env I) (H : Here c k A n ns sm env ρ) (S : ForAt m n I Sx bd ps Q ρ 0 env) (q : ∀ f s, Ends (curOf env) (FlE c sm env) m Q f s → RR (.ok f) s) :
    codeAny (model c.prog c.w) A (.forLoop tg (.ref I) body [] env) RR n.s := by
  refine codeAny_forLoop_any (fun cnt s₂ => ∃ (n : Now c) (ρ₂ : Mine.Env) (i : Nat), n.s = s₂ ∧ Here c k A n ns sm env ρ₂ ∧ ForAt m n I Sx bd ps Q ρ₂ i env ∧ i ≤ ps.length ∧ cnt = ps.length - i) (fun cnt s₂ hI => ?_) ps.length ⟨n, ρ, 0, rfl, H, S, Nat.zero_le _, rfl⟩
  obtain ⟨n, ρ₂, i, rfl, H, S, hi, rfl⟩ := hI
  have sing : ∀ {h₃ : Heap}, (∀ b o, b ∉ [I] → n.s.heap.get? b = some o → h₃.get? b = some o) → ∀ b ob, b ≠ I → n.X.h.get? b = some ob → h₃.get? b = some ob := fun hk b ob hb e => hk b ob (fun z => hb (List.mem_singleton.mp z)) (n.hX ▸ e)
  rcases Nat.lt_or_eq_of_le hi with hlt | rfl
  · refine L.it.walks.item i _ _ _ hlt (n.hX ▸ S.it) fun v h₃ tk₃ hPv hS₃ hk₃ => ?_
    have T : To (curOf env) m (n.touch S.out h₃ tk₃ (sing hk₃)) := S.to.touch L.i0
    obtain ⟨p, hp, hv⟩ := (L.it.le T.le).vals i v hPv
    have h := S.run
    rw [List.drop_eq_getElem_cons hlt, ← Option.some.inj (hp.symm.trans (List.getElem?_eq_getElem hlt))] at h
    refine L.it.go (i + 1) _ _ _ _ _ hS₃ ?_
    exact for_body (G := fun f s₃ => match f with | .next => _ | .cont => _ | .brk => _ | .ret v => _) ihS hinj hb hst L hcI T ⟨L.it.born _ _ hS₃, S.out.2⟩ hS₃ (H.touch hcI) hv h (fun n' ρ' H' S' => ⟨ps.length - (i + 1), by with_reducible exact O.a22a (by assumption), n', ρ', i + 1, rfl, H', S', hlt, rfl⟩) (fun s z => q _ s z) fun v s z => q _ s z
  · refine L.it.walks.done _ _ _ (n.hX ▸ S.it) fun h₃ tk₃ hk₃ => ?_
    have h := S.run
    rw [List.drop_of_length_le (Nat.le_refl _)] at h
    have T : To (curOf env) m (n.touch S.out h₃ tk₃ (sing hk₃)) := S.to.touch L.i0
    exact wpAny_execs_nil (q _ _ (Ends.to T (Ends.ret (r := (Fl.next, ρ₂)) ⟨rfl, (H.touch hcI).ok⟩ h)))
theorem snd_for {m : Now c} {ie : PySem.Expr} {pos : Pos} {pe : PE} {Q : Fl × Mine.Env → St → Prop} (ihE : SE1 c C k ns sm ie pe) (ihS : SS c C k w) (hinj : SmInj sm) (hset : isSet ie = false) (hb : chkL (chkFz ns sm) (chkS w ns sm) pb body = true) (hst : Binds c k A ns sm env tg bd C pb)
    (H : Here c k A m ns sm env ρ) (h : B.W (B.evalE C pe ρ) m.σ fun s σ => B.M.Got (iterV s) σ fun vs σ => B.W (B.forL bd vs ρ) σ Q) : wpAny (model c.prog c.w) A (exec (.For tg ie body [] pos) env) (Ends (curOf env) (FlE c sm env) m Q) NoE m.s := by
  refine wpAny_For ((ihE m A env ρ _ H h).sub fun x n r t g h => B.M.Got_e h fun ps hi h => ?_) (fun x => not_set hset env x)
  refine snd_iter H.room.handled n.hX n.R g hi fun I h' fp P Sx hI0 aI kI It hS0 => ?_
  have H₁ := H.to t
  have T : To none' n (n.grow h' fun b o e => kI b o (n.hX ▸ e)) := To.grow
  exact for_loop ihS hinj hb hst ⟨It, hI0⟩ (H₁.alive hI0) (H₁.to T) ⟨T.any, ⟨aI, dead_fz n.R hI0, dead_mut n.R hI0⟩, hS0, h⟩ fun f s z => Ends.to t.any z
end
end Mine
namespace Mine
open PySem PyProof.V PyProof.Rows
set_option autoImplicit false
set_option linter.unusedVariables false
set_option maxRecDepth 100000
variable {c : Cx} {A : Around} {m n : Now c} {X : Vw}

theorem sw_name {v : PySem.Expr} {y : PySem.Str} {py : Pos} {l : Nat} {env : PySem.Env} (h : isComp v = false) : swapsWith v (some (.Name y py)) l env = pure false := by cases v <;> first | rfl | cases h
theorem sw_comp {e1 : PySem.Expr} {gs : List Comprehension} {scope : Scope} {pos : Pos} {y : PySem.Str} {py : Pos} {l : Nat} {env : PySem.Env} : ∃ b, swapsWith (.ListComp e1 gs scope pos) (some (.Name y py)) l env = pure b := ⟨_, rfl⟩
theorem sw_attr {v o : PySem.Expr} {y : PySem.Str} {py : Pos} {l : Nat} {env : PySem.Env} : swapsWith v (some (.Attribute o y py)) l env = pure false := by cases v <;> rfl
theorem sw_sub {v o i : PySem.Expr} {py : Pos} {l : Nat} {env : PySem.Env} : swapsWith v (some (.Subscript o i py)) l env = pure false := by cases v <;> rfl
theorem sw_tup {v : PySem.Expr} {ts : List PySem.Expr} {k : Nat} {py : Pos} {l : Nat} {env : PySem.Env} : swapsWithSole [.Tuple ts k py] v l env = pure false := by cases v <;> rfl
theorem sw_none {v : PySem.Expr} {l : Nat} {env : PySem.Env} (h : isComp v = false) : swapsWith v none l env = pure false := by cases v <;> first | rfl | cases h

section
variable {C : Fn → List PV → B.M PV} {k w : Nat} {ns : Names} {sm : Slots} {env : PySem.Env} {ρ ρ' : Mine.Env} {e1 e2 e3 v : PySem.Expr} {p1 p2 p3 e : PE} {pos py : Pos} {y : PySem.Str} {j : Nat} {Q : Fl × Mine.Env → St → Prop}
theorem assign_plain (hinj : SmInj sm) (hs : chkStore ns sm y j = true) (h1 : SE1 c C k ns sm v e) (H : Here c k A m ns sm env ρ) (h : B.W (B.execS C (.assign j e) ρ) m.σ Q) (hsw : swapsWith v (some (.Name y py)) pos.line env = pure false) :
    wpAny (model c.prog c.w) A (exec (.Assign [.Name y py] v pos) env) (Ends (curOf env) (FlE c sm env) m Q) NoE m.s := by
  refine wpAny_Assign_Name ((h1 m A env ρ (B.kAssign ρ j Q) H h).sub fun u n r t g h => ?_) hsw
  exact sub (snd_store (Q := fun _ => B.kAssign ρ j Q r) hinj (H.to t) hs g h) fun _ n₂ _ t₂ E q => Ends.to (t.any.trans t₂) (Ends.ret (r := (Fl.next, Mine.Env.put ρ j r)) ⟨rfl, E⟩ q)
theorem assign_comp {x : PySem.Str} {px cpos : Pos} {i : Nat} {scope : Scope} {ifs : List PySem.Expr} {tc : Option (PV → B.M PV)} {f : PV → B.M PV} {pc : Option PE} {pe it : PE} (hinj : SmInj sm) (hs : chkStore ns sm y j = true) (h1 : SE1 c C k ns sm (.ListComp e1 [⟨.Name x px, e2, ifs, 0⟩] scope cpos) e)
    (K : Compr c C k ns sm ρ e1 x i e2 ifs scope it tc f pc pe) (H : Here c k A m ns sm env ρ) (h : B.W (B.execS C (.assign j e) ρ) m.σ Q) (h' : B.W (B.evalE C it ρ) m.σ (kG tc f (B.kAssign ρ j Q))) :
    wpAny (model c.prog c.w) A (exec (.Assign [.Name y py] (.ListComp e1 [⟨.Name x px, e2, ifs, 0⟩] scope cpos) pos) env) (Ends (curOf env) (FlE c sm env) m Q) NoE m.s := by
  obtain ⟨b, hb⟩ := sw_comp (e1 := e1) (gs := [⟨.Name x px, e2, ifs, 0⟩]) (scope := scope) (pos := cpos) (y := y) (py := py) (l := pos.line) (env := env)
  cases b with
  | false => exact assign_plain hinj hs h1 H h hb
  | true =>
    refine snd_comp_use K H h' hb fun D D2 n out c0 hne l q => ?_
    obtain ⟨g, hg⟩ := l.nm
    refine sub (snd_store (Q := fun _ => B.kAssign ρ j Q (.lst out)) hinj (H.to l.to) hs l.val q) fun _ n₃ _ t₃ E q => ⟨g, n₃.hX ▸ hg.at' fun o e => t₃.nx.keep _ o e l.oC.2.2 (H.alive c0), fun h' hs' => ?_⟩
    have oB := l.oC.next t₃.nx
    have hk : ∀ b ob, b ≠ D2 → n₃.X.h.get? b = some ob → h'.get? b = some ob := fun b ob hb e => (hs'.2 b hb).trans (n₃.hX ▸ e)
    exact ⟨n₃.touch oB h' n₃.s.toks hk, (Fl.next, Mine.Env.put ρ j (.lst out)), rfl, (l.to.any.trans t₃).touch c0, ⟨rfl, E.touch oB.2.1 (H.alive c0) hk⟩, q⟩
theorem ss_acomp {pe it : PE} {i : Nat} (hinj : SmInj sm) (hs : chkStore ns sm y j = true) (ihE : SE c C k w) (hc : chkCompr (chkE w) ns sm v pe i it (fun _ _ ifs => ifs.isEmpty) = true) : SE1 c C k ns sm v (.comp pe i it) → SS1 c C k ns sm (.Assign [.Name y py] v pos) (.assign j (.comp pe i it)) :=
  compr_e hc fun e1 x px e2 ifs sc cpos d0 d1 d2 d3 d4 => empty_e d3 fun h1 m A env ρ Q H h => assign_comp hinj hs h1 (compr_plain ihE d0 d1 d2 d4) H h h
theorem ss_acompIf {pe it pc : PE} {i : Nat} (hinj : SmInj sm) (hs : chkStore ns sm y j = true) (ihE : SE c C k w) (ihT : ST c C k w) (hc : chkCompr (chkE w) ns sm v pe i it (fun ns' sm' ifs => l1 ifs fun e3 => chkE w ns' sm' e3 pc) = true) : SE1 c C k ns sm v (.compIf pe i it pc) → SS1 c C k ns sm (.Assign [.Name y py] v pos) (.assign j (.compIf pe i it pc)) :=
  compr_e hc fun e1 x px e2 ifs sc cpos d0 d1 d2 d3 d4 => l1_e d3 fun e3 d3 h1 m A env ρ Q H h => assign_comp hinj hs h1 (compr_if ihE ihT d0 d1 d2 d3 d4) H h h
noncomputable def compIdx (i : Nat) : Bool := i == 8 || (i == 9 || i == 10)
theorem not_comp (hc : chkE (w + 1) ns sm v e = true) (hp : (idxOf e == 99) = false) (h : compIdx (idxOf e) = false) : isComp v = false := by
  show compIdx v.ctorIdx = false
  rw [ctor_of hc hp]
  exact h
theorem ss_assign (hinj : SmInj sm) (ihE : SE c C k w) (ihE' : ∀ w', w = w' + 1 → SE c C k w' ∧ ST c C k w') (hs : chkStore ns sm y j = true) (h0 : (!(isComp v && isFrz e)) = true) (hc : chkE w ns sm v e = true) : SS1 c C k ns sm (.Assign [.Name y py] v pos) (.assign j e) := by
  have h1 := ihE _ _ _ _ hc
  have plain : isComp v = false → SS1 c C k ns sm (.Assign [.Name y py] v pos) (.assign j e) := fun hk m A env ρ Q H h => assign_plain hinj hs h1 H h (sw_name hk)
  cases w with
  | zero => cases hc
  | succ w =>
    obtain ⟨ihE, ihT⟩ := ihE' w rfl
    cases e with
    | comp pe i it => exact ss_acomp hinj hs ihE hc h1
    | compIf pe i it pc => exact ss_acompIf hinj hs ihE ihT hc h1
    | frz i a => exact plain (by cases hk : isComp v with | false => rfl | true => rw [hk] at h0; cases h0)
    | bad => exact fun m A env ρ Q H h => h.elim
    | _ => exact plain (not_comp hc rfl rfl)

theorem wpAny_all1 {v : Value} {t : PySem.Expr} {Q : Unit → Shared → Prop} {E : Value → Shared → Prop} {s : Shared} (h : wpAny (model c.prog c.w) A (assign t env v) Q E s) (hs : (assignEach [t] env).map (·.2) = [assign t env]) : wpAny (model c.prog c.w) A (assignAll v ((assignEach [t] env).map (·.2))) Q E s := by
  rw [hs]; exact h
theorem VRs.rev {vs : List Value} : ∀ {ps : List PV}, VRs c X ps vs → VRs c X ps.reverse vs.reverse := by
  induction vs with
  | nil =>
    intro ps h
    cases ps with
    | nil => exact VRs.nil
    | cons p ps => obtain ⟨_, _, e, _⟩ := h; cases e
  | cons v vs ih =>
    intro ps h
    cases ps with
    | nil => cases h
    | cons p ps =>
      obtain ⟨_, _, e, h1, h2⟩ := h
      cases e
      rw [List.reverse_cons, List.reverse_cons]
      exact (ih h2).append (VRs.cons h1 VRs.nil)
theorem ss_assignT {ts : List PySem.Expr} {xs : List Nat} {x1 : Nat} {tp : Pos} (hinj : SmInj sm) (ht : chkTgts ns sm ts xs = true) (hk : tupOk v = true) (h1 : SE1 c C k ns sm v e) : SS1 c C k ns sm (.Assign [.Tuple ts x1 tp] v pos) (.assignT xs e) := fun m A env ρ Q H h => by
  refine and_e ht fun hta hnd => ?_
  have T := tgt_facts (c := c) (A := A) (env := env) ts xs hta
  rcases swapped_is (k1 := x1) (p1 := tp) (env := env) hta hk with hw | ⟨hw, hl⟩
  · refine wpAny_Assign_stores ((h1 m A env ρ (B.kAssignT1 ρ xs Q) H h).sub fun u n r t g h => B.M.Got_e h fun us hi h => ?_) sw_tup hw
    exact wpAny_all1 (sub (snd_assignTup (Q := fun _ => B.kAssignT2 ρ xs Q us) hinj ht (H.to t) g hi h) fun _ n₂ _ t₂ E q => Ends.to (t.any.trans t₂) (Ends.ret (r := (Fl.next, Mine.Env.putAll ρ xs us)) ⟨rfl, E⟩ q)) rfl
  · rw [exec_Assign_arm]
    refine wpAny_bind (wpAny_standAt ?_)
    rw [sw_tup]
    refine wpAny_bind (wpAny_pure ?_)
    rw [if_neg (by decide)]
    refine wpAny_bind ((h1 m A env ρ (B.kAssignT1 ρ xs Q) H h).sub fun u n r t g h => B.M.Got_e h fun us hi hq => ?_)
    rw [hw]
    refine wpAny_bind (wpAny_pure ?_)
    show wpAny _ A (do rule "assign.swapped-stores"; let items ← unpackItems u (tgtNames ts).length none; assignInOrder ((tgtNames ts).reverse.map fun n => bindName env n) items.reverse; pure Flow.next) _ _ n.s
    obtain ⟨rfl, hlp⟩ := items_is hi
    revert g
    refine fun g => g.tup_e fun a vs fz ht2 hn hvs => ?_
    have hlen : (tgtNames ts).length = vs.toArray.size := by rw [List.size_toArray, hvs.length, hlp, T.lenX, T.len]
    refine wpAny_bind (wpAny_rule ?_)
    rw [hlen]
    refine wpAny_bind (wpAny_unpackItems_tuple H.room.handled (n.hX ▸ ht2) fun h' he => ?_)
    have G : To none' n (n.grow h' (ext_kept he)) := To.grow
    have hx : xs.length = 2 ∨ xs.length = 3 := T.lenX ▸ hl
    refine wpAny_bind (sub (snd_stores (Q := fun _ => B.kAssignT2 ρ xs Q us) hinj _ xs.reverse us.reverse vs.reverse (n.grow h' (ext_kept he)) ρ (by rw [List.map_reverse]; exact T.binds.rev) (by rw [List.length_reverse, List.length_reverse, hlp]) ((H.to t).to G) (VRs.le G.le _ _ hvs).rev hq) fun _ n₂ _ t₂ E q => ?_)
    have E : EnvOk c n₂.X n₂.σ sm env (Mine.Env.putAll ρ xs.reverse us.reverse) := E
    rw [putAll_rev (of_decide_eq_true hnd) hlp hx] at E
    exact wpAny_pure (Ends.to ((t.trans G).any.trans t₂) (Ends.ret (r := (Fl.next, Mine.Env.putAll ρ xs us)) ⟨rfl, E⟩ q))
theorem ret_next {m n : Now c} {f : Flow} (T : To (curOf env) m n) (E : EnvOk c n.X n.σ sm env ρ) (q : B.kDone ρ Q () n.σ) : Ends (curOf env) (FlE c sm env) m Q .next n.s := Ends.to T (Ends.ret (r := (Fl.next, ρ)) ⟨rfl, E⟩ q)
theorem done_next {m n n₂ : Now c} (H : Here c k A m ns sm env ρ) (t : To none' m n) (t₂ : To none' n n₂) (q : B.kDone ρ Q () n₂.σ) : Ends (curOf env) (FlE c sm env) m Q .next n₂.s := Ends.to (t.trans t₂).any (Ends.ret (r := (Fl.next, ρ)) ⟨rfl, (H.to (t.trans t₂)).ok⟩ q)
theorem ss_setAttr {a : At} {ap : Pos} (F : Facts c) (h1 : SE1 c C k ns sm v e) (h2 : SE1 c C k ns sm e1 p1) : SS1 c C k ns sm (.Assign [.Attribute e1 a.str ap] v pos) (.setAttr p1 a e) := fun m A env ρ Q H h =>
  plainObj_wpAny_Assign_Attribute (two (K := fun x y => B.kSetA2 a x ρ Q y) h1 h2 H h fun v₁ v₂ n r₁ r₂ t g₁ g₂ h => sub (snd_setAttr (Q := B.kDone ρ Q) F.cls g₂ g₁ h) fun _ n₂ _ t₂ _ q => done_next H t t₂ q) sw_attr
theorem ss_setSub {ap : Pos} (h1 : SE1 c C k ns sm v e) (h2 : SE1 c C k ns sm e1 p1) (h3 : SE1 c C k ns sm e2 p2) : SS1 c C k ns sm (.Assign [.Subscript e1 e2 ap] v pos) (.setSub p1 p2 e) := fun m A env ρ Q H h =>
  wpAny_Assign_Subscript ((h1 m A env ρ (B.kSetB1 C p1 p2 ρ Q) H h).sub fun v₀ n₀ r₀ t₀ g₀ h => two (K := fun x y => B.kSetB3 r₀ x ρ Q y) h2 h3 (H.to t₀) h fun v₁ v₂ n r₁ r₂ t g₁ g₂ h =>
    sub (snd_setSub (Q := B.kDone ρ Q) g₁ g₂ (VR.le t.le _ _ g₀) h) fun _ n₂ _ t₂ _ q => done_next H (t₀.trans t) t₂ q) sw_sub
theorem ss_setSlice {ap spos : Pos} {o1 o2 : Option PySem.Expr} (ihE : SE c C k w) (h1 : SE1 c C k ns sm v e) (h2 : SE1 c C k ns sm e1 p1) (c1 : chkOpt (chkE w ns sm) o1 p2 = true) (c2 : chkOpt (chkE w ns sm) o2 p3 = true) : SS1 c C k ns sm (.Assign [.Subscript e1 (.Slice o1 o2 none spos) ap] v pos) (.setSlice p1 p2 p3 e) := fun m A env ρ Q H h =>
  wpAny_Assign_Subscript (two (K := fun x y => B.kSetC2 C x p2 p3 ρ Q y) h1 h2 H h fun v₁ v₂ n r₁ r₂ t g₁ g₂ h => parts (K := fun l => B.kSetC4 r₁ r₂ l ρ Q) ihE c1 c2 (H.to t) h fun sl v₃ v₄ n₂ r₃ r₄ t₂ g₃ g₄ hs h =>
    sub (snd_setSlice (Q := B.kDone ρ Q) (VR.le t₂.le _ _ g₂) g₃ g₄ (VR.le t₂.le _ _ g₁) hs h) fun _ n₃ _ t₃ _ q => done_next H (t.trans t₂) t₃ q) sw_sub
variable {b o : List Stmt} {pb po : List PS}
theorem ss_if (ihS : SS c C k w) (hinj : SmInj sm) (h1 : ST1 c C k ns sm e1 p1) (c2 : chkB (chkS w ns sm) ns sm b pb = true) (c3 : chkB (chkS w ns sm) ns sm o po = true) : SS1 c C k ns sm (.If e1 b o pos) (.ifs p1 pb po) := fun m A env ρ Q H h => by
  refine wpAny_If (Mine.sub (h1 m A env ρ (B.kIf C pb po ρ Q) H h fun r σ' h => B.WT.any h) fun b₁ n r t g h => ?_)
  cases b₁ with
  | true => exact fin t.any (snd_list ihS hinj pb b n ρ Q c2 (H.to t) (B.WT.t g h))
  | false => exact fin t.any (snd_list ihS hinj po o n ρ Q c3 (H.to t) (B.WT.f g h))
theorem ss_for {tp : Pos} (ihE : SE c C k w) (ihS : SS c C k w) (hinj : SmInj sm) (hs : chkStore ns sm y j = true) (h0 : isSet e1 = false) (h1 : SE1 c C k ns sm e1 p1) (hb : chkB (chkS w ns sm) ns sm b pb = true) : SS1 c C k ns sm (.For (.Name y tp) e1 b [] pos) (.fors j p1 pb) := fun m A env ρ Q H h =>
  snd_for h1 ihS hinj h0 hb (fun m ρ p v Q H hv h => wpAny_assign_Name (sub (snd_store (Q := fun _ σ => B.W (B.execL C pb (Mine.Env.put ρ j p)) σ Q) hinj H hs hv h) fun _ n _ t E q => Ends.to t (Ends.ret (r := Mine.Env.put ρ j p) E q))) H h
theorem ss_forT {ts : List PySem.Expr} {xs : List Nat} {x1 : Nat} {tp : Pos} (ihS : SS c C k w) (hinj : SmInj sm) (hs : chkTgts ns sm ts xs = true) (h0 : isSet e1 = false) (h1 : SE1 c C k ns sm e1 p1) (hb : chkB (chkS w ns sm) ns sm b pb = true) : SS1 c C k ns sm (.For (.Tuple ts x1 tp) e1 b [] pos) (.forsT xs p1 pb) := fun m A env ρ Q H h =>
  snd_for h1 ihS hinj h0 hb (fun m ρ p v Q H hv h => B.M.opt_e h fun us hi h => sub (snd_assignTup (Q := fun _ σ => B.W (B.execL C pb (Mine.Env.putAll ρ xs us)) σ Q) hinj hs H hv hi h) fun _ n _ t E q => Ends.to t (Ends.ret (r := Mine.Env.putAll ρ xs us) E q)) H h
theorem ss_ret {ov : Option PySem.Expr} (ihE : SE c C k w) (hc : chkOpt (chkE w ns sm) ov e = true) : SS1 c C k ns sm (.Return ov pos) (.ret e) := fun m A env ρ Q H h => by
  cases ov with
  | none => exact isNoneE_e (P := fun e => B.W (B.execS C (.ret e) ρ) m.σ Q → _) hc (fun h => wpAny_Return_none (Ends.ret (r := (Fl.ret .none, ρ)) ⟨⟨.none, rfl, rfl⟩, H.ok⟩ h)) h
  | some v => exact wpAny_Return_some ((ihE _ _ _ _ hc m A env ρ (B.kRet ρ Q) H h).sub fun v n r t g h => Ends.to t.any (Ends.ret (r := (Fl.ret r, ρ)) ⟨⟨v, rfl, g⟩, (H.to t).ok⟩ h))
theorem ss_expr (h0 : isComp v = false) (h1 : SE1 c C k ns sm v e) : SS1 c C k ns sm (.Expr v pos) (.expr e) := fun m A env ρ Q H h =>
  wpAny_Expr_any ((h1 m A env ρ (B.kExpr ρ Q) H h).sub fun v n r t g h => Ends.to t.any (Ends.ret (r := (Fl.next, ρ)) ⟨rfl, (H.to t).ok⟩ h)) (by unfold interactive; rw [H.ok.kind]; rfl) (sw_none h0)
@[elab_as_elim] theorem to_e {P : Stmt → Prop} {s : Stmt} {f : PySem.Expr → PySem.Expr → Bool} (h : chkTo s f = true) (q : ∀ t v pos, f t v = true → P (.Assign [t] v pos)) : P s := stAssign_e h fun ts v pos h => l1_e h fun t h => q t v pos h
theorem ss_succ (F : Facts c) (hC : CallsOk c C k) (ihS : SS c C k w) : SS c C k (w + 1) := by
  obtain ⟨ihE, ihT⟩ := expr_all F hC w
  intro ns sm st p hc hinj
  cases p with
  | assign x e => exact to_e hc fun t v pos h => exName_e h fun y py h => and_e h fun h1 h => and_e h fun h2 h3 => ss_assign hinj ihE (fun w' _ => expr_all F hC w') h1 h2 h3
  | assignT xs e => exact to_e hc fun t v pos h => exTup_e h fun ts kd tp h => and_e h fun h1 h => and_e h fun h2 h3 => ss_assignT hinj h1 h2 (ihE _ _ _ _ h3)
  | setAttr o a e => exact to_e hc fun t v pos h => exAttr_e h fun ov y ap h => and_e h fun h1 h => and_e h fun h2 h3 => of_decide_eq_true h1 ▸ ss_setAttr F (ihE _ _ _ _ h3) (ihE _ _ _ _ h2)
  | setSub o i e => exact to_e hc fun t v pos h => exSub_e h fun ov iv ap h => and_e h fun h1 h => and_e h fun h2 h => and_e h fun h3 h4 => ss_setSub (ihE _ _ _ _ h4) (ihE _ _ _ _ h2) (ihE _ _ _ _ h3)
  | setSlice o lo hi e => exact to_e hc fun t v pos h => exSub_e h fun ov iv ap h => exSlice_e h fun l u st spos h => and_e h fun h0 h => and_e h fun h1 h => and_e h fun h2 h => and_e h fun h3 h4 => oNone_e h0 (ss_setSlice ihE (ihE _ _ _ _ h4) (ihE _ _ _ _ h1) h2 h3)
  | ifs ce t f => exact stIf_e hc fun te b o pos h => and_e h fun h1 h => and_e h fun h2 h3 => ss_if ihS hinj (ihT _ _ _ _ h1) h2 h3
  | whiles ce b => exact stWhile_e hc fun te body o pos h => and_e h fun h0 h => and_e h fun h1 h2 => empty_e h0 (snd_while ihT ihS hinj h1 h2)
  | fors x it b => exact stFor_e hc fun tg ie body o pos h => and_e h fun h0 h => empty_e h0 (exName_e h fun y py h => and_e h fun h1 h => and_e h fun h2 h => and_e h fun h3 h4 => ss_for ihE ihS hinj h1 (not_e h2) (ihE _ _ _ _ h3) h4)
  | forsT xs it b => exact stFor_e hc fun tg ie body o pos h => and_e h fun h0 h => empty_e h0 (exTup_e h fun ts kd tp h => and_e h fun h1 h => and_e h fun h2 h => and_e h fun h3 h4 => ss_forT ihS hinj h1 (not_e h2) (ihE _ _ _ _ h3) h4)
  | ret e => exact stReturn_e hc fun v pos h => ss_ret ihE h
  | brk => exact stBreak_e hc fun pos _ => fun m A env ρ Q H h => wpAny_Break (Ends.ret (r := (Fl.brk, ρ)) ⟨rfl, H.ok⟩ h)
  | expr e => exact stExpr_e hc fun v pos h => and_e h fun h1 h2 => ss_expr (not_e h1) (ihE _ _ _ _ h2)
  | frz j x => cases hc

theorem stmt_all (F : Facts c) (hC : CallsOk c C k) (w : Nat) : SS c C k w := by
  induction w with
  | zero => exact fun _ _ _ _ h => (nomatch h)
  | succ w ih => exact ss_succ F hC ih
end
end Mine
namespace Mine
open PySem PyProof.V PyProof.Rows
set_option autoImplicit false
set_option linter.unusedVariables false
set_option maxRecDepth 100000

section
variable {α : Type}
theorem lookup_zip_none {x : PySem.Str} : ∀ {ns : List PySem.Str} {vs : List α}, x ∉ ns → (ns.zip vs).lookup x = none
  | [], _, _ => rfl
  | n :: ns, [], _ => rfl
  | n :: ns, v :: vs, h => by
    simp only [List.mem_cons, not_or] at h
    rw [List.zip_cons_cons, List.lookup_cons]
    have : (x == n) = false := by simpa using h.1
    rw [this]
    exact lookup_zip_none h.2
theorem lookup_zip : ∀ {ns : List PySem.Str} {vs : List α} {i : Nat} {x : PySem.Str} {v : α}, ns.Nodup → ns[i]? = some x → vs[i]? = some v → (ns.zip vs).lookup x = some v
  | [], _, _, _, _, _, h, _ => by simp at h
  | _ :: _, [], _, _, _, _, _, h => by simp at h
  | n :: ns, v :: vs, 0, x, u, _, h1, h2 => by
    simp at h1 h2; subst h1; subst h2
    simp
  | n :: ns, v :: vs, i + 1, x, u, hn, h1, h2 => by
    simp only [List.getElem?_cons_succ] at h1 h2
    rw [List.zip_cons_cons, List.lookup_cons]
    rw [List.nodup_cons] at hn
    have : (x == n) = false := by
      have hm := List.mem_of_getElem? h1
      simp only [beq_eq_false_iff_ne, ne_eq]
      rintro rfl
      exact hn.1 hm
    rw [this]
    exact lookup_zip hn.2 h1 h2
theorem filterMap_zip : ∀ {ns : List PySem.Str} {vs : List α} {l : List (PySem.Str × α)}, vs.length = ns.length → (∀ (i : Nat) x v, ns[i]? = some x → vs[i]? = some v → l.lookup x = some v) → (ns.filterMap fun n => (l.lookup n).map (n, ·)) = ns.zip vs
  | [], vs, l, _, _ => by simp
  | n :: ns, [], l, h, _ => by cases h
  | n :: ns, v :: vs, l, h, hl => by
    have e := hl 0 n v rfl rfl
    rw [List.filterMap_cons, e, List.zip_cons_cons]
    simp only [Option.map_some]
    rw [filterMap_zip (vs := vs) (by simpa using h) fun i x u h1 h2 => hl (i + 1) x u h1 h2]

noncomputable def laid (sl : List (PySem.Str × α)) : List (PySem.Str × α) → List (PySem.Str × α)
  | [] => sl
  | (n, d) :: r => laid (if (sl.lookup n).isNone then sl ++ [(n, d)] else sl) r
theorem lookup_append {x : PySem.Str} : ∀ {l r : List (PySem.Str × α)}, (l ++ r).lookup x = (l.lookup x).or (r.lookup x)
  | [], r => by simp
  | (n, v) :: l, r => by
    rw [List.cons_append, List.lookup_cons, List.lookup_cons]
    cases x == n with
    | true => simp
    | false => exact lookup_append
theorem laid_old {x : PySem.Str} {v : α} : ∀ {r sl : List (PySem.Str × α)}, sl.lookup x = some v → (laid sl r).lookup x = some v
  | [], _, h => h
  | (n, d) :: r, sl, h => by
    unfold laid
    refine laid_old ?_
    split
    · rw [lookup_append, h]; rfl
    · exact h
theorem laid_new {x : PySem.Str} {v : α} : ∀ {r sl : List (PySem.Str × α)}, sl.lookup x = none → r.lookup x = some v → (laid sl r).lookup x = some v
  | [], _, _, h => by cases h
  | (n, d) :: r, sl, h, hr => by
    unfold laid
    rw [List.lookup_cons] at hr
    cases e : x == n with
    | true =>
      rw [e] at hr
      have := beq_iff_eq.mp e
      subst this
      simp at hr; subst hr
      refine laid_old ?_
      rw [h]
      simp only [Option.isNone_none, if_true]
      rw [lookup_append, h]
      simp
    | false =>
      rw [e] at hr
      refine laid_new ?_ hr
      split
      · rw [lookup_append, h]
        simp [List.lookup_cons, e]
      · exact h
end

noncomputable def Dflts (h : Heap) (v : Value) (ds : List Value) : Prop := (v = .none ∧ ds = []) ∨ ∃ T o n, v = .ref T ∧ h.get? T = some o ∧ o.data = .seq ds.toArray n
theorem Dflts.run {M : Model} {A : Around} {E : Value → Shared → Prop} {s : Shared} {v : Value} {ds : List Value} {Q : Option (Array Value) → Shared → Prop} (h : Dflts s.heap v ds) (q : ∀ o, o.getD #[] = ds.toArray → Q o s) : wpAny M A (seqItems? v) Q E s := by
  rcases h with ⟨rfl, rfl⟩ | ⟨T, o, n, rfl, ho, hd⟩
  · unfold seqItems?
    refine wpAny_bind (m := notAStandIn .none) ?_
    show wpAny M A (Pure.pure ()) _ _ _
    exact wpAny_pure (wpAny_pure (q _ rfl))
  · exact wpAny_seqItems ho hd (q _ rfl)

theorem wp_laid {M : Model} {A : Around} {E : Value → Shared → Prop} (f : PySem.Str × Value → List (PySem.Str × Value) → Sem (ForInStep (List (PySem.Str × Value))))
    (hf : ∀ n d sl, f (n, d) sl = if (sl.lookup n).isNone then Pure.pure (.yield (sl ++ [(n, d)])) else Pure.pure (.yield sl)) : ∀ (r sl : List (PySem.Str × Value)) (s : Shared) (Q : List (PySem.Str × Value) → Shared → Prop), Q (laid sl r) s → wpAny M A (forIn r sl f) Q E s
  | [], sl, s, Q, h => by rw [List.forIn_nil]; exact wpAny_pure h
  | (n, d) :: r, sl, s, Q, h => by
    rw [List.forIn_cons, hf]
    unfold laid at h
    split
    · rename_i hc
      rw [if_pos hc] at h
      exact wpAny_bind (wpAny_pure (wp_laid f hf r _ s Q h))
    · rename_i hc
      rw [if_neg hc] at h
      exact wpAny_bind (wpAny_pure (wp_laid f hf r _ s Q h))

section
variable {nm : List PySem.Str} {vals ds : List Value}
theorem no_miss (hn : nm.Nodup) (hl : nm.length ≤ vals.length + ds.length) : List.filter (fun n => (List.lookup n (nm.zip vals)).isNone) (List.take (nm.length - ds.length) nm) = [] := by
  refine List.filter_eq_nil_iff.mpr fun x hx => ?_
  obtain ⟨i, hi⟩ := List.mem_iff_getElem?.mp hx
  rw [List.getElem?_take] at hi
  by_cases hlt : i < nm.length - ds.length
  · rw [if_pos hlt] at hi
    have hv : i < vals.length := by clear hx; with_reducible exact O.a18c (by assumption) (by assumption)
    rw [lookup_zip hn hi (List.getElem?_eq_getElem hv)]
    exact nofun
  · rw [if_neg hlt] at hi; cases hi
theorem not_given (hn : nm.Nodup) {i : Nat} {x : PySem.Str} (hi : nm[i]? = some x) (hv : vals.length ≤ i) (hl : vals.length ≤ nm.length) : List.lookup x (nm.zip vals) = none := by
  have e : nm.zip vals = (nm.take vals.length).zip vals := by
    rw [List.zip_eq_zip_take_min, Nat.min_eq_right hl, List.take_length]
  rw [e]
  refine lookup_zip_none fun hm => ?_
  obtain ⟨j, hj⟩ := List.mem_iff_getElem?.mp hm
  rw [List.getElem?_take] at hj
  by_cases hjl : j < vals.length
  · rw [if_pos hjl] at hj
    have e := (List.getElem?_inj (List.getElem?_eq_some_iff.mp hi).1 hn).mp (hi.trans hj.symm)
    exact Nat.lt_irrefl _ (Nat.lt_of_lt_of_le (e ▸ hjl) hv)
  · rw [if_neg hjl] at hj; cases hj
theorem slots_at (hn : nm.Nodup) (hl : vals.length ≤ nm.length) (hl2 : nm.length ≤ vals.length + ds.length) (hl3 : ds.length ≤ nm.length) {i : Nat} {x : PySem.Str} {v : Value} (q1 : nm[i]? = some x) (q2 : (vals ++ ds.drop (ds.length + vals.length - nm.length))[i]? = some v) :
    (laid (nm.zip vals) ((nm.drop (nm.length - ds.length)).zip ds)).lookup x = some v := by
  by_cases hi : i < vals.length
  · rw [List.getElem?_append_left hi] at q2
    exact laid_old (lookup_zip hn q1 q2)
  · have hi := Nat.le_of_not_lt hi
    rw [List.getElem?_append_right hi, List.getElem?_drop] at q2
    have hin : i < nm.length := (List.getElem?_eq_some_iff.mp q1).1
    refine laid_new (not_given hn q1 hi hl) (lookup_zip (i := i - (nm.length - ds.length)) (hn.sublist (List.drop_sublist _ _)) ?_ ?_)
    · rw [List.getElem?_drop, show nm.length - ds.length + (i - (nm.length - ds.length)) = i by clear q1 q2; with_reducible exact O.a18b (by assumption) (by assumption) (by assumption)]
      exact q1
    · rw [← q2]
      congr 1
      clear q1 q2
      with_reducible exact O.a18a (by assumption) (by assumption) (by assumption)
theorem binds_list (hn : nm.Nodup) (hl : vals.length ≤ nm.length) (hl2 : nm.length ≤ vals.length + ds.length) (hl3 : ds.length ≤ nm.length) :
    (nm.filterMap fun n => ((laid (nm.zip vals) ((nm.drop (nm.length - ds.length)).zip ds)).lookup n).map (n, ·)) = nm.zip (vals ++ ds.drop (ds.length + vals.length - nm.length)) :=
  filterMap_zip (by rw [List.length_append, List.length_drop]; with_reducible exact O.a18 (by assumption) (by assumption)) fun i x v q1 q2 => slots_at hn hl hl2 hl3 q1 q2
end
theorem wpAny_not {M : Model} {A : Around} {α : Type} {p : Prop} [Decidable p] {t e : Sem α} {Q : α → Shared → Prop} {E : Value → Shared → Prop} {s : Shared} (h : ¬ p) (k : wpAny M A e Q E s) : wpAny M A (if p then t else e) Q E s := (if_neg h).symm ▸ k
theorem binds_gen {s : Shared} {fd : FuncData} {vals ds : List Value} (h1 : fd.params.posonlyargs = []) (h2 : fd.params.kwonlyargs = []) (h3 : fd.params.vararg = none) (h4 : fd.params.kwarg = none) (hn : (fd.params.args.map (·.arg)).Nodup)
    (hd : Dflts s.heap fd.defaults ds) (hl : vals.length ≤ (fd.params.args.map (·.arg)).length) (hl2 : (fd.params.args.map (·.arg)).length ≤ vals.length + ds.length) (hl3 : ds.length ≤ (fd.params.args.map (·.arg)).length) :
    BindsTo s fd ⟨vals, []⟩ ((fd.params.args.map (·.arg)).zip (vals ++ ds.drop (ds.length + vals.length - (fd.params.args.map (·.arg)).length))) := by
  obtain ⟨_, _, ⟨po, ar, va, ko, kd, kw, df⟩, _⟩ := fd
  cases h1; cases h2; cases h3; cases h4
  intro M A E Q hq
  replace hn : (List.map (fun x : Arg => x.arg) [] ++ List.map (fun x : Arg => x.arg) ar).Nodup := hn
  replace hl : vals.length ≤ (List.map (fun x : Arg => x.arg) [] ++ List.map (fun x : Arg => x.arg) ar).length := hl
  replace hl2 : (List.map (fun x : Arg => x.arg) [] ++ List.map (fun x : Arg => x.arg) ar).length ≤ vals.length + ds.length := hl2
  replace hl3 : ds.length ≤ (List.map (fun x : Arg => x.arg) [] ++ List.map (fun x : Arg => x.arg) ar).length := hl3
  replace hq : Q ((List.map (fun x : Arg => x.arg) [] ++ List.map (fun x : Arg => x.arg) ar).zip (vals ++ ds.drop (ds.length + vals.length - (List.map (fun x : Arg => x.arg) [] ++ List.map (fun x : Arg => x.arg) ar).length))) s := hq
  unfold bindArgs
  refine wpAny_bind (wpAny_pure ?_)
  refine wpAny_bind (hd.run fun o ho => ?_)
  have ho : (o.getD #[]).toList = ds := congrArg Array.toList ho
  dsimp only
  rw [ho]
  generalize List.map (fun x : Arg => x.arg) [] ++ List.map (fun x : Arg => x.arg) ar = nm at hn hl hl2 hl3 hq ⊢
  refine wpAny_not (fun z => ?_) ?_
  · exact absurd hl (by simpa using z)
  rw [show ds.drop (ds.length - nm.length) = ds by rw [Nat.sub_eq_zero_of_le hl3]; rfl]
  refine wpAny_not (fun z => by rw [no_miss hn hl2] at z; cases z) ?_
  refine wpAny_bind (wp_laid _ (fun _ _ _ => rfl) _ _ _ _ ?_)
  refine wpAny_bind (wpAny_pure (wpAny_pure ?_))
  rw [List.map_nil, List.append_nil, binds_list hn hl hl2 hl3]
  exact hq
end Mine
namespace Mine
open PySem PyProof.V PyProof.Rows
set_option autoImplicit false
set_option linter.unusedVariables false
set_option maxRecDepth 100000
variable {c : Cx} {X X' X₁ : Vw} {σ σ' σ₁ : St} {A : Around} {s s₁ sc : Shared} {cur : Addr → Prop}

noncomputable def slotsOf (f : Fn) : Slots := (slotNames f).map fun p => (Str.ofString p.1, p.2)
noncomputable def isStmts : FuncBody → Option (List Stmt)
  | .stmts b => some b
  | _ => none
noncomputable def fdOk (N : Nat) (f : Fn) (fd : FuncData) : Bool :=
  fd.params.posonlyargs.isEmpty && fd.params.kwonlyargs.isEmpty && fd.params.vararg.isNone && fd.params.kwarg.isNone &&
  decide (fd.params.args.map (·.arg)).Nodup && (fd.params.args.length == (D f).params) && decide ((D f).dflts.length ≤ (D f).params) &&
  fd.closure.isEmpty && !fd.scope.isCoroutine && !fd.scope.isGenerator && (fd.scope.kind == .function) && (fd.globals == mainGlobals) && (fd.builtins == builtinsNs) &&
  (fd.params.args.map (·.arg)).zipIdx.all (fun p => ((slotsOf f).lookup p.1 == some p.2) && isStoreKind (fd.scope.names.lookup p.1)) &&
  decide ((slotsOf f).map (·.2)).Nodup && fd.scope.names.all (fun p => !(p.2 == .free)) &&
  onSome (isStmts fd.body) fun body => chkB (chkS N fd.scope.names (slotsOf f)) fd.scope.names (slotsOf f) body (D f).body

structure FnOk (c : Cx) (N : Nat) (f : Fn) : Prop where
  ex : ∃ o fd ds, c.h₀.get? (c.fA f) = some o ∧ o.data = .func fd ∧ c.h₀.CodeRec fd.code fd.qualname ∧ Dflts c.h₀ fd.defaults ds ∧ VRs c (start c) (D f).dflts ds ∧ fdOk N f fd = true

theorem inj_of {sm : Slots} (h : (sm.map (·.2)).Nodup) : SmInj sm := by
  intro x y k hx hy
  have mx := lookup_mem hx
  have my := lookup_mem hy
  induction sm with
  | nil => cases hx
  | cons p r ih =>
    rw [List.map_cons, List.nodup_cons] at h
    obtain ⟨h1, h2⟩ := h
    rcases List.mem_cons.mp mx with e1 | m1
    · rcases List.mem_cons.mp my with e2 | m2
      · rw [← e2] at e1; cases e1; rfl
      · exact absurd (List.mem_map_of_mem (f := (·.2)) m2) (by rw [← e1] at h1; exact h1)
    · rcases List.mem_cons.mp my with e2 | m2
      · exact absurd (List.mem_map_of_mem (f := (·.2)) m1) (by rw [← e2] at h1; exact h1)
      · have ex : r.lookup x = some k ∨ p.1 = x := by
          obtain ⟨a, b⟩ := p
          rw [List.lookup_cons] at hx
          cases e : x == a with
          | true => exact .inr (beq_iff_eq.mp e).symm
          | false => rw [e] at hx; exact .inl hx
        have ey : r.lookup y = some k ∨ p.1 = y := by
          obtain ⟨a, b⟩ := p
          rw [List.lookup_cons] at hy
          cases e : y == a with
          | true => exact .inr (beq_iff_eq.mp e).symm
          | false => rw [e] at hy; exact .inl hy
        have key : ∀ z, (p :: r).lookup z = some k → p.1 = z → False := fun z hz e => by
          obtain ⟨a, b⟩ := p
          have e' : a = z := e
          subst e'
          simp at hz
          exact h1 (by rw [hz]; exact List.mem_map_of_mem (f := (·.2)) m1)
        rcases ex with ex | ex
        · rcases ey with ey | ey
          · exact ih h2 ex ey m1 m2
          · exact (key y hy ey).elim
        · exact (key x hx ex).elim

theorem cells_old {x : PySem.Str} : ∀ {names : Names} {n : Nat} {acc : List (PySem.Str × Addr)}, (acc.lookup x).isSome = true → ((cellsFrom n names acc).lookup x).isSome = true
  | [], _, _, h => h
  | (y, k) :: r, n, acc, h => by
    unfold cellsFrom
    split
    · refine cells_old ?_
      rw [List.lookup_cons]
      split
      · rfl
      · exact h
    · exact cells_old h
theorem cells_has {x : PySem.Str} : ∀ {names : Names} {n : Nat} {acc : List (PySem.Str × Addr)}, (x, NameKind.cell) ∈ names → ((cellsFrom n names acc).lookup x).isSome = true
  | [], _, _, h => by cases h
  | (y, k) :: r, n, acc, h => by
    unfold cellsFrom
    rcases List.mem_cons.mp h with e | h
    · cases e
      simp only [beq_self_eq_true, if_true]
      refine cells_old ?_
      simp
    · split
      · exact cells_has h
      · exact cells_has h

theorem bindL_other {kd : PySem.Str → Option NameKind} {x : PySem.Str} : ∀ {b : List (PySem.Str × Value)} {m : PySem.Str → Option Value}, x ∉ b.map (·.1) → bindL kd b m x = m x
  | [], _, _ => rfl
  | (n, v) :: r, m, h => by
    simp only [List.map_cons, List.mem_cons, not_or] at h
    unfold bindL
    rw [bindL_other h.2]
    split
    · simp [h.1]
    · rfl
theorem bindL_get {kd : PySem.Str → Option NameKind} {x : PySem.Str} {v : Value} : ∀ {b : List (PySem.Str × Value)} {m : PySem.Str → Option Value}, (b.map (·.1)).Nodup → (x, v) ∈ b → kd x = some .local → bindL kd b m x = some v
  | [], _, _, h, _ => by cases h
  | (n, u) :: r, m, hn, h, hk => by
    rw [List.map_cons, List.nodup_cons] at hn
    unfold bindL
    rcases List.mem_cons.mp h with e | h
    · cases e
      rw [if_pos hk, bindL_other hn.1]
      simp
    · exact bindL_get hn.2 h hk
theorem bindC_other {kd : PySem.Str → Option NameKind} {x : PySem.Str} : ∀ {b : List (PySem.Str × Value)} {m : PySem.Str → Option Value}, x ∉ b.map (·.1) → bindC kd b m x = m x
  | [], _, _ => rfl
  | (n, v) :: r, m, h => by
    simp only [List.map_cons, List.mem_cons, not_or] at h
    unfold bindC
    rw [bindC_other h.2]
    split
    · rfl
    · simp [h.1]
theorem bindC_get {kd : PySem.Str → Option NameKind} {x : PySem.Str} {v : Value} : ∀ {b : List (PySem.Str × Value)} {m : PySem.Str → Option Value}, (b.map (·.1)).Nodup → (x, v) ∈ b → kd x ≠ some .local → bindC kd b m x = some v
  | [], _, _, h, _ => by cases h
  | (n, u) :: r, m, hn, h, hk => by
    rw [List.map_cons, List.nodup_cons] at hn
    unfold bindC
    rcases List.mem_cons.mp h with e | h
    · cases e
      rw [if_neg hk, bindC_other hn.1]
      simp
    · exact bindC_get hn.2 h hk

section
variable {prog : Program} {w : World}
theorem call_cells {R : Result → Shared → Prop} {a : Addr} {o : Obj} {fd : FuncData} {body : List Stmt} {vals : List Value} {binds : List (PySem.Str × Value)}
    (hroom : A.depth < recursionLimit) (ho : s.heap.get? a = some o) (hdata : o.data = .func fd) (hlim : s.heap.NoLimit) (hcd : s.heap.CodeRec fd.code fd.qualname)
    (hbody : fd.body = .stmts body) (hbind : BindsTo s fd ⟨vals, []⟩ binds) (hclo : fd.closure = [])
    (hkind : ∀ x ∈ binds, fd.scope.names.lookup x.1 = some .local ∨ (fd.scope.names.lookup x.1 = some .cell ∧ ((cellsFrom (s.heap.objs.size + 1) fd.scope.names []).lookup x.1).isSome = true))
    (h : ∀ s₁, InCallC s (callEnvC fd s.heap.objs.size a).locals (bindL (callEnvC fd s.heap.objs.size a).kindOf binds fun _ => none) (callEnvC fd s.heap.objs.size a).cells
        (bindC (callEnvC fd s.heap.objs.size a).kindOf binds fun _ => none) s₁ →
      wpAny (model prog w) (A.deeper (callEnvC fd s.heap.objs.size a)) (execs body (callEnvC fd s.heap.objs.size a)) (fun f s' => R (.ok (.ret (match f with | .ret v => v | _ => .none))) s') NoE s₁)
    (hco : fd.scope.isCoroutine = false) (hgen : fd.scope.isGenerator = false) (hk : fd.scope.kind = .function) :
    codeAny (model prog w) A (.call (.ref a) ⟨vals, []⟩) R s := by
  refine codeAny_call_function hroom ho hdata hco hgen hbody hcd (hbind _ _ _ _ ?_)
  rw [hclo]
  refine wpAny_newFunctionEnv_cells hk hkind fun env he s' x => ?_
  subst he
  exact ⟨hlim.keeps x.toInCall.keep, codeAny_func (wpAny_mono (h s' x) (fun _ _ z => z) fun _ _ z => z.elim)⟩
end

theorem zip_keys : ∀ {ns : List PySem.Str} {vs : List Value}, vs.length = ns.length → (ns.zip vs).map (·.1) = ns
  | [], vs, _ => rfl
  | n :: ns, [], h => by cases h
  | n :: ns, v :: vs, h => by simp only [List.zip_cons_cons, List.map_cons]; rw [zip_keys (by simpa using h)]
theorem zip_mem : ∀ {ns : List PySem.Str} {vs : List Value} {i : Nat} {x : PySem.Str} {v : Value}, ns[i]? = some x → vs[i]? = some v → (x, v) ∈ ns.zip vs
  | [], _, _, _, _, h, _ => by simp at h
  | _ :: _, [], _, _, _, _, h => by simp at h
  | n :: ns, v :: vs, 0, x, u, h1, h2 => by simp at h1 h2; subst h1; subst h2; simp
  | n :: ns, v :: vs, i + 1, x, u, h1, h2 => by
    rw [List.zip_cons_cons]
    exact .tail _ (zip_mem (by simpa using h1) (by simpa using h2))
theorem storeKind_is {o : Option NameKind} (h : isStoreKind o = true) : o = some .local ∨ o = some .cell := by
  unfold isStoreKind at h
  split at h <;> first | exact .inl rfl | exact .inr rfl | cases h

theorem get_start {vs : List PV} {m : Nat} {k : Nat} {p : PV} (h : Mine.Env.get (vs.map some ++ List.replicate m none) k = some p) : vs[k]? = some p := by
  unfold Mine.Env.get at h
  by_cases hk : k < vs.length
  · rw [List.getElem?_append_left (by simpa using hk), List.getElem?_map] at h
    rw [List.getElem?_eq_getElem hk] at h ⊢
    simpa using h
  · rw [List.getElem?_append_right (by simp; omega)] at h
    split at h
    · rename_i v hv
      have := List.mem_of_getElem? hv
      rw [List.mem_replicate] at this
      rw [this.2] at h
      cases h
    · cases h

variable {m : Now c}
structure FdOk (N : Nat) (f : Fn) (fd : FuncData) (body : List Stmt) : Prop where
  p1 : fd.params.posonlyargs = []
  p2 : fd.params.kwonlyargs = []
  p3 : fd.params.vararg = none
  p4 : fd.params.kwarg = none
  p5 : (fd.params.args.map (·.arg)).Nodup
  p6 : fd.params.args.length = (D f).params
  p7 : (D f).dflts.length ≤ (D f).params
  p8 : fd.closure = []
  p9 : fd.scope.isCoroutine = false
  p10 : fd.scope.isGenerator = false
  p11 : fd.scope.kind = .function
  p12 : fd.globals = mainGlobals
  p13 : fd.builtins = builtinsNs
  slot : ∀ (i : Nat) x, (fd.params.args.map (·.arg))[i]? = some x → (slotsOf f).lookup x = some i ∧ isStoreKind (fd.scope.names.lookup x) = true
  inj : SmInj (slotsOf f)
  noFree : ∀ y, fd.scope.names.lookup y ≠ some .free
  isBody : fd.body = .stmts body
  chk : chkB (chkS N fd.scope.names (slotsOf f)) fd.scope.names (slotsOf f) body (D f).body = true
theorem fd_ok {N : Nat} {f : Fn} {fd : FuncData} (h : fdOk N f fd = true) : ∃ body, FdOk N f fd body := by
  unfold fdOk at h
  refine and_e h fun h p17 => and_e h fun h p16 => and_e h fun h p15 => and_e h fun h p14 => and_e h fun h p13 => and_e h fun h p12 => and_e h fun h p11 => and_e h fun h p10 => and_e h fun h p9 => and_e h fun h p8 => and_e h fun h p7 => and_e h fun h p6 => and_e h fun h p5 => and_e h fun h p4 => and_e h fun h p3 => and_e h fun p1 p2 => onSome_e p17 fun body hb p17 => ⟨body, ?_⟩
  refine ⟨List.isEmpty_iff.mp p1, List.isEmpty_iff.mp p2, Option.isNone_iff_eq_none.mp p3, Option.isNone_iff_eq_none.mp p4, of_decide_eq_true p5, eq_of_beq p6, of_decide_eq_true p7, List.isEmpty_iff.mp p8, not_e p9, not_e p10, eq_of_beq p11, eq_of_beq p12, eq_of_beq p13, fun i x e => ?_, inj_of (of_decide_eq_true p15), fun y e => ?_, ?_, p17⟩
  · have := List.all_eq_true.mp p14 (x, i) (List.mem_zipIdx_iff_getElem?.mpr e)
    exact and_e this fun a b => ⟨eq_of_beq a, b⟩
  · have := List.all_eq_true.mp p16 _ (lookup_mem e)
    cases this
  · revert hb
    cases fd.body with
    | stmts b => exact fun e => by cases e; rfl
    | _ => exact fun e => nomatch e
theorem bindA_e {d : Def} {args : List PV} {ρ : Mine.Env} {R : Prop} (h : bindA d args = some ρ) (q : args.length ≤ d.params → d.params ≤ args.length + d.dflts.length → ρ = (args ++ d.dflts.drop (d.dflts.length + args.length - d.params)).map some ++ List.replicate (d.slots - d.params) .none → R) : R := by
  obtain ⟨⟨h1, h2⟩, e⟩ := if_some' h
  exact q h1 h2 e.symm
section
variable {N k j : Nat} {f : Fn} {fd : FuncData} {body : List Stmt} {fp : List PV} {fv : List Value} {env : PySem.Env} {h₁ : Heap} {tk : Tok} {a : Addr}
theorem named_arg {X : Vw} {y : PySem.Str} {i : Nat} {pv : PV} (D : FdOk N f fd body) (hvs : VRs c X fp fv) (hfl : fp.length = fd.params.args.length) (q1 : (slotsOf f).lookup y = some i) (q2 : Mine.Env.get (fp.map some ++ List.replicate j .none) i = some pv) :
    ∃ v, (y, v) ∈ (fd.params.args.map (·.arg)).zip fv ∧ VR c X pv v := by
  have q3 := get_start q2
  obtain ⟨v, e1, e2⟩ := hvs.get q3
  have hk : i < (fd.params.args.map (·.arg)).length := by
    rw [List.length_map, ← hfl]
    exact (List.getElem?_eq_some_iff.mp q3).1
  have hy : (fd.params.args.map (·.arg))[i]? = some (fd.params.args.map (·.arg))[i] := List.getElem?_eq_getElem hk
  cases D.inj _ _ _ q1 (D.slot i _ hy).1
  exact ⟨v, zip_mem hy e1, e2⟩
theorem cell_above {s₁ : Shared} {lm cm : PySem.Str → Option Value} (henv : env = callEnvC fd m.s.heap.objs.size a) (x : InCallC m.s env.locals lm env.cells cm s₁) {y : PySem.Str} {b : Addr} (e : env.cells.lookup y = some b) : m.s.heap.objs.size ≤ b := by
  have := x.above y b (mem_of_lookup e)
  rw [show env.locals = m.s.heap.objs.size by rw [henv]; rfl] at this
  exact Nat.le_of_lt this
theorem cur_new {s₁ : Shared} {lm cm : PySem.Str → Option Value} (henv : env = callEnvC fd m.s.heap.objs.size a) (x : InCallC m.s env.locals lm env.cells cm s₁) {b : Addr} (hb : curOf env b) : m.X.h.get? b = none := by
  rw [m.hX]
  rcases hb with rfl | ⟨y, _, e⟩
  · exact Heap.get?_none_of_le (by rw [henv]; exact Nat.le_refl _)
  · exact Heap.get?_none_of_le (cell_above henv x e)
theorem frame_ok (D : FdOk N f fd body) (henv : env = callEnvC fd m.s.heap.objs.size a) (hvs : VRs c m.X fp fv) (hfl : fp.length = fd.params.args.length)
    (x : InCallC m.s env.locals (bindL env.kindOf ((fd.params.args.map (·.arg)).zip fv) fun _ => none) env.cells (bindC env.kindOf ((fd.params.args.map (·.arg)).zip fv) fun _ => none) (sh m.s h₁ tk))
    (kp : ∀ b o, m.X.h.get? b = some o → h₁.get? b = some o) : EnvOk c (m.X.at h₁) m.σ (slotsOf f) env (fp.map some ++ List.replicate j .none) := by
  have L : Le m.X (m.X.at h₁) := ⟨Nat.le_refl _, fun _ _ => rfl, fun _ z => z, fun b o _ e => kp b o e⟩
  have eK : ∀ y, env.kindOf y = fd.scope.names.lookup y := fun y => by rw [henv]; rfl
  have loc := cur_new henv x (.inl rfl)
  have nd : (((fd.params.args.map (·.arg)).zip fv).map (·.1)).Nodup := by rw [zip_keys (by rw [hvs.length, hfl, List.length_map])]; exact D.p5
  refine ⟨by rw [henv]; exact D.p11, by rw [henv]; exact D.p12, by rw [henv]; exact D.p13, ⟨_, x.toInCall.ns, fun y k pv q1 q2 q3 => ?_⟩, ⟨dead_fz m.R loc, dead_mut m.R loc⟩, fun y hy => ?_, fun y z a q1 q2 => name_of_addr x.apart (mem_of_lookup q1) (mem_of_lookup q2)⟩
  · obtain ⟨v, e1, e2⟩ := named_arg D hvs hfl q1 q2
    exact ⟨v, bindL_get nd e1 q3, VR.le L _ _ e2⟩
  · have hyc : env.kindOf y = some .cell := hy.elim id fun hy => absurd (eK y ▸ hy) (D.noFree y)
    have hsome := cells_has (n := m.s.heap.objs.size + 1) (acc := []) (lookup_mem (eK y ▸ hyc))
    obtain ⟨b, ha⟩ := Option.isSome_iff_exists.mp hsome
    have ha : env.cells.lookup y = some b := by rw [henv]; exact ha
    have hd : m.X.h.get? b = none := by rw [m.hX]; exact Heap.get?_none_of_le (cell_above henv x ha)
    refine ⟨b, _, ha, x.cell y b ha, dead_fz m.R hd, dead_mut m.R hd, fun k pv q1 q2 => ?_⟩
    obtain ⟨v, e1, e2⟩ := named_arg D hvs hfl q1 q2
    exact ⟨v, bindC_get nd e1 (by rw [hyc]; exact fun z => nomatch z), VR.le L _ _ e2⟩
end
@[elab_as_elim] theorem call_end {P : Flow → Prop} {n : Now c} {sm : Slots} {env : PySem.Env} {r : Fl × Mine.Env} {g : Flow} {Q : PV → St → Prop} (t : To none' m n) (h1 : FlE c sm env n r g) (h : B.W (B.endM r) n.σ Q) (q1 : Ends none' VN m Q .none n.s → P .next) (q3 : ∀ v, Ends none' VN m Q v n.s → P (.ret v)) : P g := by
  obtain ⟨fl, ρ'⟩ := r
  obtain ⟨g1, g2⟩ := h1
  cases fl with
  | next => cases g1; exact q1 (Ends.to t (Ends.retV .none rfl h))
  | brk => exact h.elim
  | ret p => obtain ⟨v, rfl, hv⟩ := g1; exact q3 v (Ends.to t (Ends.retV p hv h))
theorem bind_len {a d P : Nat} (h1 : a ≤ P) (h2 : P ≤ a + d) (h3 : d ≤ P) : a + (d - (d + a - P)) = P := by with_reducible exact O.a18 (by assumption) (by assumption)
theorem Room.call {k : Nat} (h : Room A k) : A.depth < recursionLimit := Nat.lt_of_le_of_lt (Nat.le_trans (Nat.le_add_right _ _) (Nat.le_add_right _ _)) h.depth
theorem calls_step {n k N : Nat} (F : Facts c) (FO : ∀ f, FnOk c N f) (hC : CallsOk c (B.callN D n) k) : CallsOk c (B.callN D (n + 1)) (k + 2) := by
  intro f args vs m A Q h hv hA
  obtain ⟨o, fd, ds, ho, hd, hcd, hdf, hds, hok⟩ := (FO f).ex
  obtain ⟨body, K⟩ := fd_ok hok
  refine B.M.opt_e (B.Called.out h) fun ρ e h => bindA_e e fun hl1 hl2 e => ?_
  subst e
  have hvl := hv.length
  have hdl := hds.length
  have hml : (fd.params.args.map (·.arg)).length = (D f).params := (List.length_map _).trans K.p6
  have hdf' : Dflts m.s.heap fd.defaults ds := hdf.imp id fun ⟨T, o, n, z1, z2, z3⟩ => ⟨T, o, n, z1, m.old z2, z3⟩
  have hb := binds_gen (s := m.s) (vals := vs) K.p1 K.p2 K.p3 K.p4 K.p5 hdf' (by rw [hml, hvl]; exact hl1) (by rw [hml, hvl, hdl]; exact hl2) (by rw [hml, hdl]; exact K.p7)
  rw [hvl, hdl, hml] at hb
  have hvs : VRs c m.X (args ++ (D f).dflts.drop ((D f).dflts.length + args.length - (D f).params)) (vs ++ ds.drop ((D f).dflts.length + args.length - (D f).params)) := hv.append ((VRs.le (start_le m.R) _ _ hds).drop _)
  have hfl : (args ++ (D f).dflts.drop ((D f).dflts.length + args.length - (D f).params)).length = fd.params.args.length := by rw [List.length_append, List.length_drop, K.p6]; exact bind_len hl1 hl2 K.p7
  generalize (args ++ (D f).dflts.drop ((D f).dflts.length + args.length - (D f).params)) = fp at *
  generalize (vs ++ ds.drop ((D f).dflts.length + args.length - (D f).params)) = fv at *
  clear hl1 hl2 hvl hdl hml hv hds hdf' hdf e
  refine wpAny_call (call_cells hA.call (m.old ho) hd (F.lim.keeps fun b o e => m.old e) ?_ K.isBody hb K.p8 (fun x hx => ?_) (fun s₁ x => ?_) K.p9 K.p10 K.p11)
  · obtain ⟨cc, co, cv, ct, e1, e2, e3, e4⟩ := hcd
    exact ⟨cc, co, cv, ct, e1, m.old e2, e3, e4⟩
  · have hx1 : x.1 ∈ fd.params.args.map (·.arg) := by
      rw [← zip_keys (ns := fd.params.args.map (·.arg)) (vs := fv) (by rw [hvs.length, hfl, List.length_map])]
      exact List.mem_map_of_mem hx
    obtain ⟨i, hi⟩ := List.mem_iff_getElem?.mp hx1
    exact (storeKind_is (K.slot i _ hi).2).imp id fun e => ⟨e, cells_has (lookup_mem e)⟩
  · obtain ⟨h₁, tk, rfl⟩ := x.toInCall.same
    have kp : ∀ b o, m.X.h.get? b = some o → h₁.get? b = some o := fun b o e => x.toInCall.keep b o (m.hX ▸ e)
    let n : Now c := ⟨m.X.at h₁, m.σ, sh m.s h₁ tk, rfl, m.R.heap fun b o e _ => kp b o e⟩
    have T : To none' m n := ⟨⟨_, _, rfl⟩, Nx.heap _ (born_ne kp) (fun b o e _ => kp b o e) fun _ _ z => z⟩
    have H : Here c k (A.deeper (callEnvC fd m.s.heap.objs.size (c.fA f))) n fd.scope.names (slotsOf f) (callEnvC fd m.s.heap.objs.size (c.fA f)) (fp.map some ++ List.replicate ((D f).slots - (D f).params) .none) := ⟨frame_ok K rfl hvs hfl x kp, rfl, Room.deeper hA⟩
    refine Mine.sub (m := n) (snd_list (stmt_all F hC N) K.inj (D f).body body n _ (fun r σ' => B.W (B.endM r) σ' Q) K.chk H h) fun g n₂ r t h1 h => ?_
    exact call_end ⟨(T.any.trans t).sh, ((T.any.trans t).nx).shrink fun b o e hc => nomatch (cur_new rfl x hc).symm.trans e⟩ h1 h (fun z => z) fun v z => z
theorem calls_all {N : Nat} (F : Facts c) (FO : ∀ f, FnOk c N f) (n : Nat) : CallsOk c (B.callN D n) (2 * n) := by
  induction n with
  | zero => exact fun f args vs m A Q h => h.elim
  | succ n ih => exact calls_step F FO ih
end Mine
namespace Mine
open PySem PySem.W PyProof.V PyProof.Rows
set_option autoImplicit false
set_option linter.unusedVariables false
set_option maxRecDepth 100000

noncomputable def Fn.all : List Fn := [.init .info, .init .buffer, .init .lookup, .init .scene, .init .ligature, .init .classdef, .init .gdef, .next_lig, .class_of, .glyph_class, .law_classes, .law_draw, .law_row, .law_sets, .law_places, .law_part, .law_joined, .law_due, .law_infos, .law,
  .set_cluster, .widened, .merge, .attach_wanted, .class_bit, .is_ignored, .passes, .glyph_tests, .fits, .is_borne, .found_at, .input_at, .is_piece, .hold_together, .part_count, .way_of, .tie, .tie_behind, .tie_all, .join, .apply_ligature]
noncomputable def Fn.ix (f : Fn) : Nat := Fn.casesOn f (fun c => c.ctorIdx) 7 8 9 10 11 12 13 14 15 16 17 18 19 20 21 22 23 24 25 26 27 28 29 30 31 32 33 34 35 36 37 38 39 40
theorem Fn.mem_all (f : Fn) : f ∈ Fn.all := List.mem_of_getElem? (i := f.ix) (by cases f with | init c => cases c <;> rfl | _ => rfl)
noncomputable def Cl.all : List Cl := [.info, .buffer, .lookup, .scene, .ligature, .classdef, .gdef]
theorem Cl.mem_all (k : Cl) : k ∈ Cl.all := by cases k <;> decide
theorem Gc.mem_all (g : Gc) : g ∈ Gc.all := by cases g <;> decide
noncomputable def Bi.all : List Bi := [.len, .abs, .min, .max, .sum, .any, .dict, .list, .tuple, .int, .range]
theorem Bi.mem_all (b : Bi) : b ∈ Bi.all := by cases b <;> decide
noncomputable def Mt.all : List Mt := [.append, .get, .setdefault, .glyph_class, .class_of, .next_lig]
theorem Mt.mem_all (b : Mt) : b ∈ Mt.all := by cases b <;> decide

theorem boot_bi (b : Bi) : bootBuiltins b.str = some b.val := by cases b <;> kernel_rfl
theorem bi_name (b : Bi) : b.str ≠ ("__name__" : PySem.Str) := by cases b <;> decide

section
variable {R : Prop}
noncomputable def vAt (i : Nat) (e : Value) (k : e.ctorIdx = i → Bool) : Bool := if h : e.ctorIdx = i then k h else false
theorem vAt_e {e : Value} {i : Nat} {k : e.ctorIdx = i → Bool} (h : vAt i e k = true) (q : ∀ h, k h = true → R) : R := by
  unfold vAt at h
  by_cases hi : e.ctorIdx = i
  · rw [dif_pos hi] at h; exact q hi h
  · rw [dif_neg hi] at h; cases h
noncomputable def vRef (e : Value) (k : Addr → Bool) : Bool := vAt 10 e fun h => Value.ref.elim (motive := fun _ => Bool) e h k
@[elab_as_elim] theorem vRef_e {P : Value → Prop} {e : Value} {k : Addr → Bool} (h : vRef e k = true) (q : ∀ a, k a = true → P (.ref a)) : P e :=
  vAt_e h fun hi => Value.ref.elim (motive := fun e => ∀ hi : e.ctorIdx = 10, Value.ref.elim (motive := fun _ => Bool) e hi k = true → P e) e hi (fun a _ => q a) hi
noncomputable def isStrKey (e : Value) : Bool := vAt 6 e fun _ => true
theorem isStrKey_e {e : Value} (h : isStrKey e = true) : ∃ a t, e = .str a t := vAt_e h fun hi _ => Value.str.elim (motive := fun e => ∃ a t, e = .str a t) e hi fun a t => ⟨a, t, rfl⟩
noncomputable def dAt (i : Nat) (e : Data) (k : e.ctorIdx = i → Bool) : Bool := if h : e.ctorIdx = i then k h else false
theorem dAt_e {e : Data} {i : Nat} {k : e.ctorIdx = i → Bool} (h : dAt i e k = true) (q : ∀ h, k h = true → R) : R := by
  unfold dAt at h
  by_cases hi : e.ctorIdx = i
  · rw [dif_pos hi] at h; exact q hi h
  · rw [dif_neg hi] at h; cases h
noncomputable def dSeq (e : Data) (k : Array Value → Bool) : Bool := dAt 2 e fun h => Data.seq.elim (motive := fun _ => Bool) e h fun xs _ => k xs
@[elab_as_elim] theorem dSeq_e {P : Data → Prop} {e : Data} {k : Array Value → Bool} (h : dSeq e k = true) (q : ∀ xs n, k xs = true → P (.seq xs n)) : P e :=
  dAt_e h fun hi => Data.seq.elim (motive := fun e => ∀ hi : e.ctorIdx = 2, Data.seq.elim (motive := fun _ => Bool) e hi (fun xs _ => k xs) = true → P e) e hi (fun xs n _ => q xs n) hi
noncomputable def dDict (e : Data) (k : Array DictEntry → Bool) : Bool := dAt 3 e fun h => Data.dict.elim (motive := fun _ => Bool) e h fun xs _ => k xs
@[elab_as_elim] theorem dDict_e {P : Data → Prop} {e : Data} {k : Array DictEntry → Bool} (h : dDict e k = true) (q : ∀ xs n, k xs = true → P (.dict xs n)) : P e :=
  dAt_e h fun hi => Data.dict.elim (motive := fun e => ∀ hi : e.ctorIdx = 3, Data.dict.elim (motive := fun _ => Bool) e hi (fun xs _ => k xs) = true → P e) e hi (fun xs n _ => q xs n) hi
noncomputable def dFunc (e : Data) (k : FuncData → Bool) : Bool := dAt 7 e fun h => Data.func.elim (motive := fun _ => Bool) e h k
@[elab_as_elim] theorem dFunc_e {P : Data → Prop} {e : Data} {k : FuncData → Bool} (h : dFunc e k = true) (q : ∀ fd, k fd = true → P (.func fd)) : P e :=
  dAt_e h fun hi => Data.func.elim (motive := fun e => ∀ hi : e.ctorIdx = 7, Data.func.elim (motive := fun _ => Bool) e hi k = true → P e) e hi (fun fd _ => q fd) hi
noncomputable def dCls (e : Data) (k : ClassData → Bool) : Bool := dAt 8 e fun h => Data.cls.elim (motive := fun _ => Bool) e h k
@[elab_as_elim] theorem dCls_e {P : Data → Prop} {e : Data} {k : ClassData → Bool} (h : dCls e k = true) (q : ∀ fd, k fd = true → P (.cls fd)) : P e :=
  dAt_e h fun hi => Data.cls.elim (motive := fun e => ∀ hi : e.ctorIdx = 8, Data.cls.elim (motive := fun _ => Bool) e hi k = true → P e) e hi (fun fd _ => q fd) hi
end
noncomputable def nsNone (K : Frag) (N : Addr) (x : PySem.Str) : Bool := onSome (nsIn K N x) oNone
noncomputable def nsRef (K : Frag) (N : Addr) (x : PySem.Str) (a : Addr) : Bool := onSome (nsIn K N x) fun r => onSome r fun v => vRef v fun b => b == a
theorem ns_of {K : Frag} {h : Heap} {N : Addr} {m : PySem.Str → Option Value} {x : PySem.Str} {r : Option Value} (X : K.In h) (G : h.Ns N m) (e : nsIn K N x = some r) : m x = r := by
  obtain ⟨o, es, ep, ho, hd, _, hf⟩ := G
  unfold nsIn at e
  split at e
  · rename_i c d es' n' sl q
    have := X _ _ q
    rw [ho] at this
    cases this
    cases hd
    rw [← hf]
    unfold nsFind findBy
    rw [← Array.find?_toList]
    split at e
    · rename_i en he
      cases e
      rw [he]
      rfl
    · rename_i he
      split at e
      · cases e
      · cases e; rw [he]; rfl
  · cases e
theorem ns_none {K : Frag} {h : Heap} {N : Addr} {m : PySem.Str → Option Value} {x : PySem.Str} (X : K.In h) (G : h.Ns N m) (e : nsNone K N x = true) : m x = none :=
  onSome_e e fun r q e => (ns_of X G q).trans (oNone_e e rfl)
theorem ns_ref {K : Frag} {h : Heap} {N a : Addr} {m : PySem.Str → Option Value} {x : PySem.Str} (X : K.In h) (G : h.Ns N m) (e : nsRef K N x a = true) : m x = some (.ref a) :=
  onSome_e e fun r q e => onSome_e e fun v q2 e => (ns_of X G q).trans (q2.trans (vRef_e e fun b e => eq_of_beq e ▸ rfl))

noncomputable def nsOk (K : Frag) (N : Addr) : Bool := onSome (K.lookup N) fun o => dDict o.data fun es => es.toList.all fun e => isStrKey e.key
theorem ns_there {K : Frag} {h : Heap} {N : Addr} (X : K.In h) (e : nsOk K N = true) : ∃ m, h.Ns N m := by
  refine onSome_e e fun o q e => ?_
  obtain ⟨c, d, dt, sl⟩ := o
  revert q
  refine dDict_e (show dDict dt _ = true from e) fun es n e q => ?_
  exact ⟨fun x => nsFind es x, ⟨c, d, .dict es n, sl⟩, es, n, X _ _ q, rfl, fun en he => isStrKey_e (List.all_eq_true.mp e en (Array.mem_toList_iff.mpr he)), fun _ => rfl⟩

noncomputable def mroOk (C : Addr) (l : List Value) : Bool := l2 l fun a v => decide (a = .ref C) && decide (v = .type "object")
theorem mroOk_is {C : Addr} {l : List Value} (h : mroOk C l = true) : l = [.ref C, .type "object"] :=
  l2_e h fun a b h => and_e h fun h1 h2 => of_decide_eq_true h1 ▸ of_decide_eq_true h2 ▸ rfl
noncomputable def slotsOk (l : List (Option Value)) : Bool := (l.length == 6) && decide (l[4]? = some (some (.builtin "object.__new__")))
theorem slotsOk_is {l : List (Option Value)} (h : slotsOk l = true) : ∃ k0 k1 k2 k3 k5, l = [k0, k1, k2, k3, some (.builtin "object.__new__"), k5] := by
  refine and_e h fun h1 h2 => ?_
  have h1 := eq_of_beq h1
  have h2 := of_decide_eq_true h2
  rcases l with _ | ⟨k0, _ | ⟨k1, _ | ⟨k2, _ | ⟨k3, _ | ⟨k4, _ | ⟨k5, _ | _⟩⟩⟩⟩⟩⟩
  case cons.cons.cons.cons.cons.cons.nil => cases h2; exact ⟨k0, k1, k2, k3, k5, rfl⟩
  all_goals cases h1
noncomputable def clsOk (K : Frag) (C : Addr) (fA : Fn → Addr) (k : Cl) : Bool := onSome (K.lookup C) fun o => dCls o.data fun cd =>
  decide (o.cls = .type "type") && (mroOk C cd.mro && (cd.hasDict && (!cd.abstract && (!cd.hasDel && (slotsOk o.slots.toList &&
    (nsOk K cd.ns && (nsNone K cd.ns "__getattribute__" && (nsNone K cd.ns "__getattr__" && (nsNone K cd.ns "__setattr__" && (At.all.all (fun a => nsNone K cd.ns a.str) && (nsRef K cd.ns "__init__" (fA (.init k)) &&
      Mt.all.all fun m => match methodOf k m with | some f => nsRef K cd.ns m.str (fA f) | none => true)))))))))))
theorem cls_shape {h : Heap} {C : Addr} {cl : Value} {d : Option Addr} {cd : ClassData} {sl : List (Option Value)} (q : h.get? C = some ⟨cl, d, .cls cd, ⟨sl⟩⟩) (g1 : cl = .type "type") (g2 : cd.mro = [.ref C, .type "object"]) (g3 : cd.hasDict = true) (g4 : cd.abstract = false) (g5 : cd.hasDel = false) (g6 : slotsOk sl = true) :
    ∃ nm qn bs sn sub col k0 k1 k2 k3 k5, h.get? C = some (excClassObj nm qn C cd.ns bs [.type "object"] true sn sub false col d k0 k1 k2 k3 k5 "object.__new__") := by
  obtain ⟨k0, k1, k2, k3, k5, rfl⟩ := slotsOk_is g6
  obtain ⟨nm, bs, mro, N, qn, hdct, sn, sub, ab, col, hdel⟩ := cd
  cases g1; cases g2; cases g3; cases g4; cases g5
  exact ⟨nm, qn, bs, sn, sub, col, k0, k1, k2, k3, k5, q⟩
theorem cls_of {K : Frag} {h : Heap} {C : Addr} {fA : Fn → Addr} {k : Cl} (X : K.In h) (e : clsOk K C fA k = true) : ClsFacts h C fA k := by
  refine onSome_e e fun o q e => ?_
  obtain ⟨cl, d, dt, ⟨sl⟩⟩ := o
  have q := X _ _ q
  revert q
  refine dCls_e (show dCls dt _ = true from e) fun cd e q => ?_
  refine and_e e fun g1 e => and_e e fun g2 e => and_e e fun g3 e => and_e e fun g4 e => and_e e fun g5 e => and_e e fun g6 e => ?_
  obtain ⟨nm, qn, bs, sn, sub, col, k0, k1, k2, k3, k5, q⟩ := cls_shape q (of_decide_eq_true g1) (mroOk_is g2) g3 (not_e g4) (not_e g5) g6
  clear g1 g2 g3 g4 g5 g6
  refine and_e e fun e1 e => and_e e fun e2 e => and_e e fun e3 e => and_e e fun e4 e => and_e e fun e5 e => and_e e fun e6 e7 => (ns_there X e1).elim fun m hm => ?_
  refine ⟨nm, qn, cd.ns, bs, sn, sub, col, d, k0, k1, k2, k3, k5, m, q, hm, ns_none X hm e2, ns_none X hm e3, ns_none X hm e4, fun a => ns_none X hm (List.all_eq_true.mp e5 a a.mem_all), ns_ref X hm e6, fun mt f hf => ?_⟩
  have := List.all_eq_true.mp e7 mt mt.mem_all
  rw [hf] at this
  exact ns_ref X hm this

noncomputable def valIs (p : PV) (v : Value) : Bool := match p with
  | .none => decide (v = .none)
  | .bool b => decide (v = .bool b)
  | .int i => vAt 4 v fun h => Value.int.elim (motive := fun _ => Bool) v h fun j _ => i == j
  | .str k => vAt 6 v fun h => Value.str.elim (motive := fun _ => Bool) v h fun x _ => x == k.str
  | _ => false
theorem valIs_is {c : Cx} {X : Vw} {p : PV} {v : Value} (h : valIs p v = true) : VR c X p v := by
  cases p with
  | none => exact (of_decide_eq_true h : v = .none)
  | bool b => exact (of_decide_eq_true h : v = .bool b)
  | int i => exact vAt_e h fun hi => Value.int.elim (motive := fun v => ∀ hi : v.ctorIdx = 4, Value.int.elim (motive := fun _ => Bool) v hi (fun j _ => i == j) = true → ∃ t, v = .int i t) v hi (fun j t _ e => ⟨t, eq_of_beq e ▸ rfl⟩) hi
  | str k => exact vAt_e h fun hi => Value.str.elim (motive := fun v => ∀ hi : v.ctorIdx = 6, Value.str.elim (motive := fun _ => Bool) v hi (fun x _ => x == k.str) = true → ∃ t, v = .str k.str t) v hi (fun j t _ e => ⟨t, eq_of_beq e ▸ rfl⟩) hi
  | _ => cases h
theorem all2_is {c : Cx} {X : Vw} (ps : List PV) : ∀ {vs : List Value}, all2 valIs ps vs = true → VRs c X ps vs := by
  induction ps with
  | nil => exact fun h => all2_nil h VRs.nil
  | cons p ps ih => exact fun h => all2_cons h fun b bs h1 h2 => VRs.cons (valIs_is h1) (ih h2)
noncomputable def dfOk (K : Frag) (ps : List PV) (v : Value) : Bool := (decide (v = .none) && ps.isEmpty) || vRef v fun T => onSome (K.lookup T) fun o => dSeq o.data fun xs => all2 valIs ps xs.toList
theorem df_of {c : Cx} {X : Vw} {K : Frag} {h : Heap} {ps : List PV} {v : Value} (Y : K.In h) (e : dfOk K ps v = true) : ∃ ds, Dflts h v ds ∧ VRs c X ps ds := by
  refine or_e e (fun e => and_e e fun h1 h2 => ?_) fun e => vRef_e e fun T e => onSome_e e fun o q e => ?_
  · cases of_decide_eq_true h1
    exact empty_e h2 ⟨[], .inl ⟨rfl, rfl⟩, VRs.nil⟩
  · obtain ⟨cl, d, dt, sl⟩ := o
    have q := Y _ _ q
    revert q
    exact dSeq_e (show dSeq dt _ = true from e) fun xs n e q => ⟨xs.toList, .inr ⟨T, _, n, rfl, q, rfl⟩, all2_is ps e⟩
noncomputable def fnChk (K : Frag) (N : Nat) (fA : Fn → Addr) (f : Fn) : Bool := onSome (K.lookup (fA f)) fun o => dFunc o.data fun fd => decide (o.cls = .type "function") && (codeIn K fd.code fd.qualname && (dfOk K (D f).dflts fd.defaults && fdOk N f fd))
theorem fn_of {c : Cx} {K : Frag} {N : Nat} {f : Fn} (Y : K.In c.h₀) (e : fnChk K N c.fA f = true) : FnOk c N f ∧ ∃ o fd, c.h₀.get? (c.fA f) = some o ∧ o.cls = .type "function" ∧ o.data = .func fd := by
  refine onSome_e e fun o q e => ?_
  obtain ⟨cl, d, dt, sl⟩ := o
  have q := Y _ _ q
  revert q
  refine dFunc_e (show dFunc dt _ = true from e) fun fd e q => and_e e fun e0 e => and_e e fun e1 e => and_e e fun e2 e3 => ?_
  obtain ⟨ds, d1, d2⟩ := df_of (c := c) (X := start c) Y e2
  exact ⟨⟨_, fd, ds, q, rfl, codeRec_of Y e1, d1, d2, e3⟩, _, fd, q, of_decide_eq_true e0, rfl⟩

noncomputable def gcTup (K : Frag) (ps : List PV) (v : Value) : Bool := vRef v fun a => onSome (K.lookup a) fun o => dSeq o.data fun xs => decide (o.cls = .type "tuple") && (all2 valIs ps xs.toList && decide (ps.length ≤ 10))
noncomputable def gcVal' (K : Frag) (p : PV) (v : Value) : Bool := match p with
  | .tup ps => gcTup K ps v
  | p => valIs p v
noncomputable def gcChk (K : Frag) (g : Gc) : Bool := onSome (nsIn K mainGlobals g.str) fun r => onSome r fun v => gcVal' K (gcVal g) v
theorem tup_of {c : Cx} {K : Frag} {ps : List PV} {v : Value} (Y : K.In c.h₀) (e : gcTup K ps v = true) : VR c (start c) (.tup ps) v := by
  refine vRef_e e fun a e => onSome_e e fun o q e => ?_
  obtain ⟨cl, d, dt, sl⟩ := o
  have q := Y _ _ q
  revert q
  refine dSeq_e (show dSeq dt _ = true from e) fun xs n e q => and_e e fun e1 e => and_e e fun e2 e3 => ?_
  exact VR.tup_i ⟨_, q⟩ ⟨_, q, of_decide_eq_true e1, n, rfl⟩ (Nat.le_trans (of_decide_eq_true e3) (by decide)) (all2_is ps e2)
theorem gc_of {c : Cx} {K : Frag} {g : Gc} {mg : PySem.Str → Option Value} (Y : K.In c.h₀) (G : c.h₀.Ns mainGlobals mg) (e : gcChk K g = true) : ∃ v, mg g.str = some v ∧ VR c (start c) (gcVal g) v := by
  refine onSome_e e fun r q e => onSome_e e fun v q2 e => ⟨v, (ns_of Y G q).trans q2, ?_⟩
  revert e
  generalize gcVal g = p
  intro e
  cases p with
  | tup ps => exact tup_of Y e
  | _ => exact valIs_is e
noncomputable def nameChk (K : Frag) (cA : Cl → Addr) (fA : Fn → Addr) : Bool :=
  Fn.all.all (fun f => match f.str with | some x => nsRef K mainGlobals x (fA f) | none => true) && Cl.all.all (fun k => nsRef K mainGlobals k.str (cA k)) && Bi.all.all (fun b => nsNone K mainGlobals b.str) && Gc.all.all (fun g => gcChk K g)
noncomputable def kOk (K : Frag) (N : Nat) (cA : Cl → Addr) (fA : Fn → Addr) : Bool :=
  (K.lookup cStatics).isSome && Cl.all.all (fun k => clsOk K (cA k) fA k) && nameChk K cA fA && Fn.all.all (fun f => fnChk K N fA f)
theorem facts_of {c : Cx} {K : Frag} {N : Nat} {mg mb : PySem.Str → Option Value} (Y : K.In c.h₀) (G : c.h₀.Ns mainGlobals mg) (B : c.h₀.Ns builtinsNs mb) (hl : c.h₀.NoLimit) (hb : ∀ x : PySem.Str, x ≠ "__name__" → mb x = bootBuiltins x) (e : kOk K N c.cA c.fA = true) :
    Facts c ∧ ∀ f, FnOk c N f := by
  unfold kOk nameChk at e
  simp only [Bool.and_eq_true, List.all_eq_true] at e
  obtain ⟨⟨⟨e0, e1⟩, ⟨⟨e2, e3⟩, e4⟩, e5⟩, e6⟩ := e
  have fo : ∀ f, FnOk c N f ∧ _ := fun f => fn_of Y (e6 f f.mem_all)
  refine ⟨⟨fun k => cls_of Y (e1 k k.mem_all), ?_, hl, ⟨mg, mb, G, B, fun f x hx => ?_, fun k => ns_ref Y G (e3 k k.mem_all), fun b => ⟨ns_none Y G (e4 b b.mem_all), (hb _ (bi_name b)).trans (boot_bi b)⟩, fun g => gc_of Y G (e5 g g.mem_all)⟩, fun f => (fo f).2⟩, fun f => (fo f).1⟩
  · obtain ⟨o, ho⟩ := Option.isSome_iff_exists.mp e0
    exact ⟨o, Y _ _ ho⟩
  · have := e2 f f.mem_all
    rw [hx] at this
    exact ns_ref Y G this
end Mine
namespace Mine
open PySem PySem.W PyProof.V PyProof.Rows
set_option autoImplicit false
set_option linter.unusedVariables false
set_option maxRecDepth 100000
noncomputable def kcA : Cl → Addr
  | .info => 52
  | .buffer => 103
  | .lookup => 148
  | .scene => 170
  | .ligature => 284
  | .classdef => 376
  | .gdef => 424
noncomputable def kfA : Fn → Addr
  | .init .info => 35
  | .init .buffer => 71
  | .init .lookup => 140
  | .init .scene => 167
  | .init .ligature => 276
  | .init .classdef => 347
  | .init .gdef => 395
  | .next_lig => 93
  | .class_of => 354
  | .glyph_class => 402
  | .law_classes => 435
  | .law_draw => 442
  | .law_row => 449
  | .law_sets => 456
  | .law_places => 461
  | .law_part => 468
  | .law_joined => 473
  | .law_due => 478
  | .law_infos => 485
  | .law => 490
  | .set_cluster => 114
  | .widened => 121
  | .merge => 126
  | .attach_wanted => 181
  | .class_bit => 188
  | .is_ignored => 195
  | .passes => 202
  | .glyph_tests => 208
  | .fits => 215
  | .is_borne => 222
  | .found_at => 229
  | .input_at => 236
  | .is_piece => 243
  | .hold_together => 250
  | .part_count => 295
  | .way_of => 300
  | .tie => 307
  | .tie_behind => 314
  | .tie_all => 321
  | .join => 326
  | .apply_ligature => 333

theorem k_ok {K : Frag} {h : Heap} (Y : K.In h) (e1 : (K.lookup cStatics).isSome = true) (e2 : ∀ k, clsOk K (kcA k) kfA k = true) (e3 : nameChk K kcA kfA = true) (e4 : ∀ f, fnChk K 40 kfA f = true) : kOk K 40 kcA kfA = true := by
  unfold kOk
  simp only [Bool.and_eq_true, List.all_eq_true]
  exact ⟨⟨⟨e1, fun k _ => e2 k⟩, e3⟩, fun f _ => e4 f⟩

theorem plain_of {P : Params} {h : Heap} {a : Addr} {items : Array Value} {ds : List PyData} (w : Well P h (.ref a) (ofPy (.list ds))) (hL : h.IsList a items) : h.PlainList a items := by
  have w' : Well P h (.ref a) (.list (ofPys ds)) := w
  cases w' with
  | list ho _ =>
    obtain ⟨o, e, _, n, hd⟩ := hL
    rw [ho] at e
    cases e
    cases hd
    exact ⟨_, ho⟩

noncomputable def LawTrue : Prop := ∀ ks : List Int, ks.length ≤ 63 → B.W (B.callN D 12 .law [.lst (ks.map .int)]) [] fun v _ => v = .bool true

theorem start_rel (c : Cx) : Rel c (start c) [] := by
  refine ⟨rfl, fun b o e => ⟨⟨o, e⟩, e⟩, fun b h => h, fun i o l => ?_, fun i j o o' l => ?_, fun i o l => ?_⟩ <;> exact absurd l.lt (by simp)

theorem vrs_ints {c : Cx} {X : Vw} : ∀ {vs : List Value} {ns : List Int}, IntsAre vs ns → VRs c X (ns.map .int) vs
  | _, _, .nil => VRs.nil
  | _, _, .cons _ _ h => VRs.cons ⟨_, rfl⟩ (vrs_ints h)

theorem walk_law {prog : Program} {w : World} {s : Shared} {mg mb : PySem.Str → Option Value} {a fa : Addr} {vals : List Value} {ks : List Int} {A : Around} {K : Frag} (LT : LawTrue) (Y : K.In s.heap) (hk : kOk K 40 kcA kfA = true) (G : s.heap.Ns mainGlobals mg) (B : s.heap.Ns builtinsNs mb) (hl : s.heap.NoLimit)
    (hb : ∀ x : PySem.Str, x ≠ "__name__" → mb x = bootBuiltins x) (hfa : mg "law" = some (.ref fa)) (hL : s.heap.PlainList a vals.toArray) (hI : IntsAre vals ks) (hn : ks.length ≤ 63) (hA : Room A 24) :
    wpAny (model prog w) A (call (.ref fa) [.ref a]) (fun v s' => v = .bool true ∧ (∀ b o, s.heap.get? b = some o → s'.heap.get? b = some o) ∧ ∃ h t, s' = { s with heap := h, toks := t }) NoE s := by
  let c : Cx := ⟨prog, w, s.heap, kcA, kfA⟩
  obtain ⟨F, FO⟩ := facts_of (c := c) Y G B hl hb hk
  have hlaw : fa = kfA .law := by
    obtain ⟨mg', mb', NF⟩ := F.names
    have h1 : mg "law" = some (.ref (kfA .law)) := by
      have := hk
      unfold kOk nameChk at this
      simp only [Bool.and_eq_true, List.all_eq_true] at this
      have := this.1.2.1.1.1 .law (Fn.mem_all _)
      exact ns_ref Y G this
    rw [hfa] at h1
    cases h1; rfl
  subst hlaw
  have hlen : (ks.map PV.int).length ≤ 2 * LIM := by
    rw [List.length_map]
    exact Nat.le_trans hn (by decide)
  obtain ⟨n, ho⟩ := hL
  let m : Now c := ⟨start c, [], s, rfl, start_rel c⟩
  refine (calls_all F FO 12 .law [.lst (ks.map .int)] [.ref a] m A _ (LT ks hn) (VRs.cons (VR.lst_i ⟨_, ho⟩ ⟨n, ho⟩ hlen (vrs_ints hI)) VRs.nil) hA).sub fun v n r t g h => ?_
  cases h
  exact ⟨g, fun b o eb => n.hX ▸ t.nx.kept b o ⟨o, eb⟩ eb, t.sh⟩
end Mine
namespace Mine.B
set_option autoImplicit false
set_option linter.unusedVariables false
set_option linter.unusedSimpArgs false
set_option maxRecDepth 100000
set_option Elab.async false
set_option backward.defeqAttrib.useBackward true

section
variable {α β : Type} {σ : St}
theorem W.mono {m : M α} {P Q : α → St → Prop} (h : W m σ P) (k : ∀ a σ', P a σ' → Q a σ') : W m σ Q := m.mono _ _ _ k h
theorem W.eq {m : M α} {v : α} (h : W m σ fun a σ' => a = v ∧ σ' = σ) : W m σ fun a σ' => a = v ∧ σ' = σ := h
@[simp] theorem W_pure {a : α} {Q : α → St → Prop} : W (M.pure a) σ Q = Q a σ := rfl
@[simp] theorem W_bind {m : M α} {f : α → M β} {Q : β → St → Prop} : W (M.bind m f) σ Q = W m σ (fun a σ' => W (f a) σ' Q) := rfl
@[simp] theorem W_some {a : α} {Q : α → St → Prop} : W (M.ofOpt (some a)) σ Q = Q a σ := rfl
@[simp] theorem W_ofOpt_none {Q : α → St → Prop} : W (M.ofOpt (none : Option α)) σ Q = False := rfl
@[simp] theorem W_fail {Q : α → St → Prop} : W (M.fail : M α) σ Q = False := rfl
@[simp] theorem W_guard {b : Bool} {Q : Unit → St → Prop} : W (M.guard b) σ Q = (b = true ∧ Q () σ) := rfl
@[simp] theorem W_must {p : Nat} {Q : Unit → St → Prop} : W (M.must p) σ Q = Fits p (Q () σ) := rfl
@[simp] theorem W_isNone {v : PV} {Q : Unit → St → Prop} : W (M.isNone v) σ Q = IsNone v (Q () σ) := rfl
@[simp] theorem W_asLst {v : PV} {Q : List PV → St → Prop} : W (M.asLst v) σ Q = ∃ vs, v = .lst vs ∧ Q vs σ := rfl
@[simp] theorem W_cond {t : Option Bool} {m1 m2 : M α} {Q : α → St → Prop} : W (M.cond t m1 m2) σ Q = WT t (W m1 σ Q) (W m2 σ Q) := rfl
theorem W_get {i : Nat} {o : PObj} {Q : PObj → St → Prop} (h : σ[i]? = some (some o)) : W (M.get i) σ Q ↔ Q o σ := by
  constructor
  · intro w
    obtain ⟨o', e, q⟩ := M.There.out w
    rw [h] at e
    cases e
    exact q
  · exact fun q => ⟨o, h, q⟩
@[simp] theorem W_set {i : Nat} {o : PObj} {Q : Unit → St → Prop} : W (M.set i o) σ Q = Q () (σ.set i (some o)) := rfl
@[simp] theorem W_erase {i : Nat} {Q : Unit → St → Prop} : W (M.erase i) σ Q = Q () (σ.set i none) := rfl
@[simp] theorem W_alloc {o : PObj} {Q : Nat → St → Prop} : W (M.alloc o) σ Q = Q σ.length (σ ++ [some o]) := rfl
@[simp] theorem oi_int {i : Int} {k : Int → Option β} : Mine.onInt (.int i) k = k i := rfl
@[simp] theorem oi_lst {i : List PV} {k : List PV → Option β} : Mine.onLst (.lst i) k = k i := rfl
@[simp] theorem oi_tup {i : List PV} {k : List PV → Option β} : Mine.onTup (.tup i) k = k i := rfl
@[simp] theorem oi_none {k : Option β} : Mine.onNone .none k = k := rfl
@[simp] theorem oi_1 {v : α} {k : α → Option β} : on1 [v] k = k v := rfl
@[simp] theorem oi_2 {v u : α} {k : α → α → Option β} : on2 [v, u] k = k v u := rfl
@[simp] theorem oi_t {k : Option β} : onTrue true k = k := rfl
@[simp] theorem mapK_nil {κ : Type} {f : PV → M PV} : mapK f ([] : List (κ × PV)) = M.pure [] := rfl
@[simp] theorem mapK_cons {κ : Type} {f : PV → M PV} {p : κ × PV} {r : List (κ × PV)} : mapK f (p :: r) = M.bind (f p.2) fun x => M.bind (mapK f r) fun xs => M.pure ((p.1, x) :: xs) := rfl
@[simp] theorem mapL_nil {f : PV → M PV} : mapL f [] = M.pure [] := rfl
@[simp] theorem fz_none {n : Nat} : freeze (n + 1) .none = M.pure .none := rfl
@[simp] theorem fz_bool {n : Nat} {b : Bool} : freeze (n + 1) (.bool b) = M.pure (.bool b) := rfl
@[simp] theorem fz_int {n : Nat} {i : Int} : freeze (n + 1) (.int i) = M.pure (.int i) := rfl
@[simp] theorem fz_str {n : Nat} {k : SK} : freeze (n + 1) (.str k) = M.pure (.str k) := rfl
@[simp] theorem fz_dct {n : Nat} {k : List (Int × PV)} : freeze (n + 1) (.dct k) = M.pure (.dct k) := rfl
@[simp] theorem fz_lst {n : Nat} {vs : List PV} : freeze (n + 1) (.lst vs) = M.bind (mapL (freeze n) vs) fun us => M.pure (.lst us) := rfl
@[simp] theorem on_int {i : Int} {k : Int → M β} : M.onInt (.int i) k = k i := rfl
@[simp] theorem on_ref {i : Nat} {k : Nat → M β} : M.onRef (.ref i) k = k i := rfl
@[simp] theorem on_dct {i : List (Int × PV)} {k : List (Int × PV) → M β} : M.onDct (.dct i) k = k i := rfl
@[simp] theorem on_lst {i : List PV} {k : List PV → M β} : M.onLst (.lst i) k = k i := rfl
@[simp] theorem on_none {k : M β} : M.onNone .none k = k := rfl
@[simp] theorem on_one {v : α} {k : α → M β} : M.onOne [v] k = k v := rfl
@[simp] theorem on_two {v u : α} {k : α → α → M β} : M.onTwo [v, u] k = k v u := rfl
@[simp] theorem on_list {i : List PV} {k : List PV → M β} : M.onList (.list i) k = k i := rfl
@[simp] theorem on_dict {i : List (Int × PV)} {k : List (Int × PV) → M β} : M.onDict (.dict i) k = k i := rfl
@[simp] theorem on_inst {c : Cl} {fs : List (At × PV)} {k : Cl → List (At × PV) → M β} : M.onInst (.inst c fs) k = k c fs := rfl
end
@[simp] theorem WT_true {A B : Prop} : WT (some true) A B = A := rfl
@[simp] theorem WT_false {A B : Prop} : WT (some false) A B = B := rfl

@[simp] theorem After_next {C : Fn → List PV → M PV} {r : List PS} {Q : Fl × Env → St → Prop} {ρ : Env} {σ : St} : After C r Q (.next, ρ) σ = W (execL C r ρ) σ Q := rfl
@[simp] theorem After_ret {C : Fn → List PV → M PV} {r : List PS} {Q : Fl × Env → St → Prop} {ρ : Env} {σ : St} {v : PV} : After C r Q (.ret v, ρ) σ = Q (.ret v, ρ) σ := rfl
@[simp] theorem After_brk {C : Fn → List PV → M PV} {r : List PS} {Q : Fl × Env → St → Prop} {ρ : Env} {σ : St} : After C r Q (.brk, ρ) σ = Q (.brk, ρ) σ := rfl
@[simp] theorem W_cons {C : Fn → List PV → M PV} {s : PS} {r : List PS} {ρ : Env} {σ : St} {Q : Fl × Env → St → Prop} : W (execL C (s :: r) ρ) σ Q = W (execS C s ρ) σ (After C r Q) := rfl
@[simp] theorem W_nil {C : Fn → List PV → M PV} {ρ : Env} {σ : St} {Q : Fl × Env → St → Prop} : W (execL C [] ρ) σ Q = Q (.next, ρ) σ := rfl
noncomputable def End (Q : PV → St → Prop) : Fl × Env → St → Prop := fun p σ' => match p.1 with | .next => Q .none σ' | .ret v => Q v σ' | .brk => False
@[simp] theorem End_next {Q : PV → St → Prop} {ρ : Env} {σ : St} : End Q (.next, ρ) σ = Q .none σ := rfl
@[simp] theorem End_ret {Q : PV → St → Prop} {ρ : Env} {σ : St} {v : PV} : End Q (.ret v, ρ) σ = Q v σ := rfl
@[simp] theorem Turn_next {I : Env → St → Prop} {Q : Fl × Env → St → Prop} {ρ : Env} {σ : St} : Turn I Q (.next, ρ) σ = I ρ σ := rfl
@[simp] theorem Turn_brk {I : Env → St → Prop} {Q : Fl × Env → St → Prop} {ρ : Env} {σ : St} : Turn I Q (.brk, ρ) σ = Q (.next, ρ) σ := rfl
@[simp] theorem Turn_ret {I : Env → St → Prop} {Q : Fl × Env → St → Prop} {ρ : Env} {σ : St} {v : PV} : Turn I Q (.ret v, ρ) σ = Q (.ret v, ρ) σ := rfl

noncomputable def padE (k : Nat) : List PV → Env
  | [] => List.replicate k none
  | v :: vs => some v :: padE k vs
@[simp] theorem pad_cons {k : Nat} {v : PV} {vs : List PV} : padE k (v :: vs) = some v :: padE k vs := rfl
@[simp] theorem pad_0 : padE 0 [] = [] := rfl
@[simp] theorem pad_1 : padE 1 [] = [none] := rfl
@[simp] theorem pad_2 : padE 2 [] = [none, none] := rfl
@[simp] theorem pad_3 : padE 3 [] = [none, none, none] := rfl
@[simp] theorem pad_4 : padE 4 [] = [none, none, none, none] := rfl
@[simp] theorem pad_5 : padE 5 [] = [none, none, none, none, none] := rfl
@[simp] theorem pad_6 : padE 6 [] = [none, none, none, none, none, none] := rfl
@[simp] theorem pad_7 : padE 7 [] = [none, none, none, none, none, none, none] := rfl
@[simp] theorem pad_8 : padE 8 [] = [none, none, none, none, none, none, none, none] := rfl
@[simp] theorem pad_9 : padE 9 [] = [none, none, none, none, none, none, none, none, none] := rfl
@[simp] theorem pad_10 : padE 10 [] = [none, none, none, none, none, none, none, none, none, none] := rfl
@[simp] theorem pad_11 : padE 11 [] = [none, none, none, none, none, none, none, none, none, none, none] := rfl
@[simp] theorem pad_12 : padE 12 [] = [none, none, none, none, none, none, none, none, none, none, none, none] := rfl
@[simp] theorem pad_13 : padE 13 [] = [none, none, none, none, none, none, none, none, none, none, none, none, none] := rfl
@[simp] theorem pad_14 : padE 14 [] = [none, none, none, none, none, none, none, none, none, none, none, none, none, none] := rfl
@[simp] theorem pad_15 : padE 15 [] = [none, none, none, none, none, none, none, none, none, none, none, none, none, none, none] := rfl
@[simp] theorem pad_16 : padE 16 [] = [none, none, none, none, none, none, none, none, none, none, none, none, none, none, none, none] := rfl
@[simp] theorem pad_17 : padE 17 [] = [none, none, none, none, none, none, none, none, none, none, none, none, none, none, none, none, none] := rfl
@[simp] theorem pad_18 : padE 18 [] = [none, none, none, none, none, none, none, none, none, none, none, none, none, none, none, none, none, none] := rfl
@[simp] theorem pad_19 : padE 19 [] = [none, none, none, none, none, none, none, none, none, none, none, none, none, none, none, none, none, none, none] := rfl
@[simp] theorem pad_20 : padE 20 [] = [none, none, none, none, none, none, none, none, none, none, none, none, none, none, none, none, none, none, none, none] := rfl
@[simp] theorem pad_21 : padE 21 [] = [none, none, none, none, none, none, none, none, none, none, none, none, none, none, none, none, none, none, none, none, none] := rfl
@[simp] theorem pad_22 : padE 22 [] = [none, none, none, none, none, none, none, none, none, none, none, none, none, none, none, none, none, none, none, none, none, none] := rfl
@[simp] theorem pad_23 : padE 23 [] = [none, none, none, none, none, none, none, none, none, none, none, none, none, none, none, none, none, none, none, none, none, none, none] := rfl
@[simp] theorem pad_24 : padE 24 [] = [none, none, none, none, none, none, none, none, none, none, none, none, none, none, none, none, none, none, none, none, none, none, none, none] := rfl
theorem W_callD {n : Nat} {f : Fn} {d : Def} {args : List PV} {ρ : Env} {σ : St} {Q : PV → St → Prop} (hd : D f = d) (hb : bindA d args = some ρ)
    (h : W (execL (callN D n) d.body ρ) σ (End Q)) : W (callN D (n + 1) f args) σ Q := by
  subst hd
  refine ⟨?_⟩
  show W (callB (callN D n) (D f) args) σ Q
  rw [callB, W_bind, hb, W_some, W_bind]
  refine W.mono h fun p σ' q => ?_
  obtain ⟨fl, ρ'⟩ := p
  cases fl with
  | next => exact q
  | brk => exact q.elim
  | ret v => exact q
theorem W_callP {n : Nat} {f : Fn} {d : Def} {args : List PV} {σ : St} {Q : PV → St → Prop} (hd : D f = d) (hb : bindA d args = some (padE (d.slots - args.length) args))
    (h : W (execL (callN D n) d.body (padE (d.slots - args.length) args)) σ (End Q)) : W (callN D (n + 1) f args) σ Q := W_callD hd hb h
section
variable {ρ : Env} {k : Nat} {v : PV} {xs : List Nat} {vs : List PV} {n : Nat}
@[simp] theorem eg_0 {v : Option PV} : Env.get (v :: ρ) 0 = v := rfl
@[simp] theorem eg_1 {v : Option PV} : Env.get (v :: ρ) 1 = Env.get ρ 0 := rfl
@[simp] theorem eg_2 {v : Option PV} : Env.get (v :: ρ) 2 = Env.get ρ 1 := rfl
@[simp] theorem eg_3 {v : Option PV} : Env.get (v :: ρ) 3 = Env.get ρ 2 := rfl
@[simp] theorem eg_4 {v : Option PV} : Env.get (v :: ρ) 4 = Env.get ρ 3 := rfl
@[simp] theorem eg_5 {v : Option PV} : Env.get (v :: ρ) 5 = Env.get ρ 4 := rfl
@[simp] theorem eg_6 {v : Option PV} : Env.get (v :: ρ) 6 = Env.get ρ 5 := rfl
@[simp] theorem eg_7 {v : Option PV} : Env.get (v :: ρ) 7 = Env.get ρ 6 := rfl
@[simp] theorem eg_8 {v : Option PV} : Env.get (v :: ρ) 8 = Env.get ρ 7 := rfl
@[simp] theorem eg_9 {v : Option PV} : Env.get (v :: ρ) 9 = Env.get ρ 8 := rfl
@[simp] theorem eg_10 {v : Option PV} : Env.get (v :: ρ) 10 = Env.get ρ 9 := rfl
@[simp] theorem eg_11 {v : Option PV} : Env.get (v :: ρ) 11 = Env.get ρ 10 := rfl
@[simp] theorem eg_12 {v : Option PV} : Env.get (v :: ρ) 12 = Env.get ρ 11 := rfl
@[simp] theorem eg_13 {v : Option PV} : Env.get (v :: ρ) 13 = Env.get ρ 12 := rfl
@[simp] theorem eg_14 {v : Option PV} : Env.get (v :: ρ) 14 = Env.get ρ 13 := rfl
@[simp] theorem eg_15 {v : Option PV} : Env.get (v :: ρ) 15 = Env.get ρ 14 := rfl
@[simp] theorem eg_16 {v : Option PV} : Env.get (v :: ρ) 16 = Env.get ρ 15 := rfl
@[simp] theorem eg_17 {v : Option PV} : Env.get (v :: ρ) 17 = Env.get ρ 16 := rfl
@[simp] theorem eg_18 {v : Option PV} : Env.get (v :: ρ) 18 = Env.get ρ 17 := rfl
@[simp] theorem eg_19 {v : Option PV} : Env.get (v :: ρ) 19 = Env.get ρ 18 := rfl
@[simp] theorem eg_20 {v : Option PV} : Env.get (v :: ρ) 20 = Env.get ρ 19 := rfl
@[simp] theorem eg_21 {v : Option PV} : Env.get (v :: ρ) 21 = Env.get ρ 20 := rfl
@[simp] theorem eg_22 {v : Option PV} : Env.get (v :: ρ) 22 = Env.get ρ 21 := rfl
@[simp] theorem ep_0 {u : Option PV} : Env.put (u :: ρ) 0 v = some v :: ρ := rfl
@[simp] theorem ep_1 {u : Option PV} : Env.put (u :: ρ) 1 v = u :: Env.put ρ 0 v := rfl
@[simp] theorem ep_2 {u : Option PV} : Env.put (u :: ρ) 2 v = u :: Env.put ρ 1 v := rfl
@[simp] theorem ep_3 {u : Option PV} : Env.put (u :: ρ) 3 v = u :: Env.put ρ 2 v := rfl
@[simp] theorem ep_4 {u : Option PV} : Env.put (u :: ρ) 4 v = u :: Env.put ρ 3 v := rfl
@[simp] theorem ep_5 {u : Option PV} : Env.put (u :: ρ) 5 v = u :: Env.put ρ 4 v := rfl
@[simp] theorem ep_6 {u : Option PV} : Env.put (u :: ρ) 6 v = u :: Env.put ρ 5 v := rfl
@[simp] theorem ep_7 {u : Option PV} : Env.put (u :: ρ) 7 v = u :: Env.put ρ 6 v := rfl
@[simp] theorem ep_8 {u : Option PV} : Env.put (u :: ρ) 8 v = u :: Env.put ρ 7 v := rfl
@[simp] theorem ep_9 {u : Option PV} : Env.put (u :: ρ) 9 v = u :: Env.put ρ 8 v := rfl
@[simp] theorem ep_10 {u : Option PV} : Env.put (u :: ρ) 10 v = u :: Env.put ρ 9 v := rfl
@[simp] theorem ep_11 {u : Option PV} : Env.put (u :: ρ) 11 v = u :: Env.put ρ 10 v := rfl
@[simp] theorem ep_12 {u : Option PV} : Env.put (u :: ρ) 12 v = u :: Env.put ρ 11 v := rfl
@[simp] theorem ep_13 {u : Option PV} : Env.put (u :: ρ) 13 v = u :: Env.put ρ 12 v := rfl
@[simp] theorem ep_14 {u : Option PV} : Env.put (u :: ρ) 14 v = u :: Env.put ρ 13 v := rfl
@[simp] theorem ep_15 {u : Option PV} : Env.put (u :: ρ) 15 v = u :: Env.put ρ 14 v := rfl
@[simp] theorem ep_16 {u : Option PV} : Env.put (u :: ρ) 16 v = u :: Env.put ρ 15 v := rfl
@[simp] theorem ep_17 {u : Option PV} : Env.put (u :: ρ) 17 v = u :: Env.put ρ 16 v := rfl
@[simp] theorem ep_18 {u : Option PV} : Env.put (u :: ρ) 18 v = u :: Env.put ρ 17 v := rfl
@[simp] theorem ep_19 {u : Option PV} : Env.put (u :: ρ) 19 v = u :: Env.put ρ 18 v := rfl
@[simp] theorem ep_20 {u : Option PV} : Env.put (u :: ρ) 20 v = u :: Env.put ρ 19 v := rfl
@[simp] theorem ep_21 {u : Option PV} : Env.put (u :: ρ) 21 v = u :: Env.put ρ 20 v := rfl
@[simp] theorem ep_22 {u : Option PV} : Env.put (u :: ρ) 22 v = u :: Env.put ρ 21 v := rfl
@[simp] theorem env_all0 : ρ.putAll [] vs = ρ := by cases vs <;> rfl
@[simp] theorem env_all1 : ρ.putAll (k :: xs) (v :: vs) = (ρ.put k v).putAll xs vs := rfl
@[simp] theorem items_tup : itemsN n (.tup vs) = if vs.length = n then some vs else .none := rfl
@[simp] theorem gc1 : gcVal .IGNORE_BASES = .int 2 := rfl
@[simp] theorem gc2 : gcVal .IGNORE_LIGATURES = .int 4 := rfl
@[simp] theorem gc3 : gcVal .IGNORE_MARKS = .int 8 := rfl
@[simp] theorem gc4 : gcVal .USE_SET = .int 16 := rfl
@[simp] theorem gc5 : gcVal .MARK = .int 3 := rfl
@[simp] theorem gc6 : gcVal .BASE_ligature = .int 1 := rfl
@[simp] theorem gc7 : gcVal .NO_CLASS = .int 0 := rfl
@[simp] theorem gc8 : gcVal .BASE_gdef = .int 1 := rfl
@[simp] theorem gc9 : gcVal .COMPONENT = .int 4 := rfl
@[simp] theorem gc10 : gcVal .KINDS_IN_INPUT = .tup [.str .zwj, .str .hidden] := rfl
@[simp] theorem mof1 : methodOf .gdef .glyph_class = some .glyph_class := rfl
@[simp] theorem mof2 : methodOf .classdef .class_of = some .class_of := rfl
@[simp] theorem mof3 : methodOf .buffer .next_lig = some .next_lig := rfl
end
@[simp] theorem it_lst {vs : List PV} : iterV (.lst vs) = some vs := rfl
@[simp] theorem it_tup {vs : List PV} : iterV (.tup vs) = some vs := rfl
@[simp] theorem it_range {a b : Int} : iterV (.range a b) = some (rangeL a b) := rfl
@[simp] theorem it_dct {kvs : List (Int × PV)} : iterV (.dct kvs) = some (kvs.map fun p => .int p.1) := rfl

@[simp] theorem env_all00 {ρ : Env} : ρ.putAll [] [] = ρ := rfl
theorem WT_t {b : Bool} {A B : Prop} (h : b = true) (x : A) : WT (some b) A B := by subst h; exact x
theorem WT_f {b : Bool} {A B : Prop} (h : b = false) (x : B) : WT (some b) A B := by subst h; exact x
@[simp] theorem WT_nt {A B : Prop} : WT (some (!true)) A B = B := rfl
@[simp] theorem WT_nf {A B : Prop} : WT (some (!false)) A B = A := rfl
@[simp] theorem isNone_none {P : Prop} : IsNone .none P = P := rfl
@[simp] theorem fit0 {P : Prop} : Fits 0 P = P := rfl
@[simp] theorem fit1 {P : Prop} : Fits 1 P = P := rfl
@[simp] theorem fit2 {P : Prop} : Fits 2 P = P := rfl
@[simp] theorem fit3 {P : Prop} : Fits 3 P = P := rfl
@[simp] theorem fit4 {P : Prop} : Fits 4 P = P := rfl
@[simp] theorem fit5 {P : Prop} : Fits 5 P = P := rfl
@[simp] theorem fit6 {P : Prop} : Fits 6 P = P := rfl
@[simp] theorem fit7 {P : Prop} : Fits 7 P = P := rfl
@[simp] theorem fit8 {P : Prop} : Fits 8 P = P := rfl
@[simp] theorem fit9 {P : Prop} : Fits 9 P = P := rfl
@[simp] theorem fit10 {P : Prop} : Fits 10 P = P := rfl
@[simp] theorem fit11 {P : Prop} : Fits 11 P = P := rfl
@[simp] theorem fit12 {P : Prop} : Fits 12 P = P := rfl
@[simp] theorem fit_lim {n : Nat} {P : Prop} (h : n < LIM) : Fits n P = P := propext ⟨fun p => p.out.2, fits_in h⟩
@[simp] theorem sl_tup1 {x : PV} {xs : List PV} : sliceV (.tup (x :: xs)) (.int 1) .none = M.pure (.tup xs) := by
  show M.ofOpt (if 1 ≤ (1 : Int) ∧ (1 : Int) ≤ (x :: xs).length then some (PV.tup ((x :: xs).drop 1)) else .none) = _
  rw [if_pos ⟨Int.le_refl _, by simp; omega⟩]
  rfl
theorem lim_small {n : Nat} (h : n < 1000) : n < LIM := by have : LIM = 100000 := rfl; omega
@[simp] theorem lim0 : 0 < LIM := by decide
@[simp] theorem lim1 : 1 < LIM := by decide
@[simp] theorem lim2 : 2 < LIM := by decide
@[simp] theorem lim3 : 3 < LIM := by decide
@[simp] theorem lim4 : 4 < LIM := by decide
@[simp] theorem lim5 : 5 < LIM := by decide
@[simp] theorem lim8 : 8 < LIM := by decide
@[simp] theorem lim9 : 9 < LIM := by decide

theorem W_forL {body : PV → Env → M (Fl × Env)} (I : Nat → Env → St → Prop) {Q : Fl × Env → St → Prop} : ∀ (ps : List PV) (i : Nat) (ρ : Env) (σ : St),
    (∀ j ρ σ p, ps[j]? = some p → I (i + j) ρ σ → W (body p ρ) σ (Turn (I (i + j + 1)) Q)) →
    (∀ ρ σ, I (i + ps.length) ρ σ → Q (.next, ρ) σ) → I i ρ σ → W (forL body ps ρ) σ Q
  | [], i, ρ, σ, _, hQ, h => hQ ρ σ h
  | p :: ps, i, ρ, σ, hs, hQ, h => by
    rw [forL, W_bind]
    refine W.mono (hs 0 ρ σ p rfl h) fun q σ' w => ?_
    obtain ⟨fl, ρ'⟩ := q
    cases fl with
    | next =>
      refine W_forL I ps (i + 1) ρ' σ' (fun j ρ σ p hp hI => ?_) (fun ρ σ hI => hQ ρ σ ?_) w
      · have := hs (j + 1) ρ σ p (by simpa using hp) (by rwa [show i + (j + 1) = i + 1 + j by with_reducible exact O.a25])
        rw [show i + (j + 1) + 1 = i + 1 + j + 1 by omega] at this
        exact this
      · rwa [show i + (p :: ps).length = i + 1 + ps.length by simp; with_reducible exact O.a25]
    | brk => exact w
    | ret v => exact w
theorem W_while {test : Env → M PV} {body : Env → M (Fl × Env)} (I : Nat → Env → St → Prop) {Q : Fl × Env → St → Prop}
    (hs : ∀ m ρ σ, I m ρ σ → W (test ρ) σ (fun t σ₁ => WT (truth t) (0 < m ∧ W (body ρ) σ₁ (Turn (I (m - 1)) Q)) (Q (.next, ρ) σ₁))) (m : Nat) (ρ : Env) (σ : St) (h : m < WH) (hI : I m ρ σ) : W (whileN test body ρ) σ Q :=
  ⟨I, m, h, hI, hs⟩

theorem W_mapL {f : PV → M PV} {g : PV → PV} {σ : St} {Q : List PV → St → Prop} : ∀ {ps : List PV}, (∀ p ∈ ps, W (f p) σ fun a σ' => a = g p ∧ σ' = σ) → Q (ps.map g) σ → W (mapL f ps) σ Q
  | [], _, q => q
  | p :: ps, h, q => by
    show W (M.bind (f p) fun x => M.bind (mapL f ps) fun xs => M.pure (x :: xs)) σ Q
    rw [W_bind]
    refine W.mono (h p (.head _)) fun a σ' e => ?_
    obtain ⟨rfl, rfl⟩ := e
    rw [W_bind]
    exact W_mapL (ps := ps) (fun p hp => h p (.tail _ hp)) q
theorem W_mapIf {c f : PV → M PV} {b : PV → Bool} {g : PV → PV} {σ : St} {Q : List PV → St → Prop} : ∀ {ps : List PV}, (∀ p ∈ ps, W (c p) σ fun a σ' => a = .bool (b p) ∧ σ' = σ) → (∀ p ∈ ps, b p = true → W (f p) σ fun a σ' => a = g p ∧ σ' = σ) → Q ((ps.filter b).map g) σ → W (mapIf c f ps) σ Q
  | [], _, _, q => q
  | p :: ps, h, h2, q => by
    show W (M.bind (c p) fun t => M.cond (truth t) (M.bind (f p) fun x => M.bind (mapIf c f ps) fun xs => M.pure (x :: xs)) (mapIf c f ps)) σ Q
    rw [W_bind]
    refine W.mono (h p (.head _)) fun a σ' e => ?_
    obtain ⟨rfl, rfl⟩ := e
    cases hb : b p with
    | true =>
      rw [List.filter_cons_of_pos hb] at q
      show W (M.bind (f p) fun x => M.bind (mapIf c f ps) fun xs => M.pure (x :: xs)) _ _
      rw [W_bind]
      refine W.mono (h2 p (.head _) hb) fun a σ' e => ?_
      obtain ⟨rfl, rfl⟩ := e
      rw [W_bind]
      exact W_mapIf (ps := ps) (fun p hp => h p (.tail _ hp)) (fun p hp => h2 p (.tail _ hp)) q
    | false =>
      rw [List.filter_cons_of_neg (by simp [hb])] at q
      exact W_mapIf (ps := ps) (fun p hp => h p (.tail _ hp)) (fun p hp => h2 p (.tail _ hp)) q

section
variable {a b : Int} {x y : Bool} {k l : SK} {vs us : List PV} {v : PV} {i : Nat}
@[simp] theorem a_inst {c : Cl} {fs : List (At × PV)} {n : At} : attrV n (.inst c fs) = M.ofOpt (fGet n fs) := rfl
@[simp] theorem tr_bool : truth (.bool x) = some x := rfl
@[simp] theorem tr_int : truth (.int a) = some (a != 0) := rfl
@[simp] theorem bv_add : binV .add (.int a) (.int b) = some (.int (a + b)) := rfl
@[simp] theorem bv_sub : binV .sub (.int a) (.int b) = some (.int (a - b)) := rfl
@[simp] theorem bv_tup : binV .add (.tup vs) (.tup us) = if vs.length + us.length < LIM then some (.tup (vs ++ us)) else none := rfl
@[simp] theorem bv_lst : binV .add (.lst vs) (.lst us) = if vs.length + us.length < LIM then some (.lst (vs ++ us)) else none := rfl
@[simp] theorem cv_lt : cmpV .lt (.int a) (.int b) = some (decide (a < b)) := rfl
@[simp] theorem cv_le : cmpV .le (.int a) (.int b) = some (decide (a ≤ b)) := rfl
@[simp] theorem cv_gt : cmpV .gt (.int a) (.int b) = some (decide (b < a)) := rfl
@[simp] theorem cv_ge : cmpV .ge (.int a) (.int b) = some (decide (b ≤ a)) := rfl
theorem eqb_int : (a == b) = decide (a = b) := by
  by_cases h : a = b
  · simp [h]
  · simp [h]
@[simp] theorem cv_eq : cmpV .eq (.int a) (.int b) = some (decide (a = b)) := by rw [← eqb_int]; rfl
@[simp] theorem cv_ne : cmpV .ne (.int a) (.int b) = some (!decide (a = b)) := by rw [← eqb_int]; rfl
@[simp] theorem cv_eqs : cmpV .eq (.str k) (.str l) = some (k == l) := rfl
@[simp] theorem cv_nes : cmpV .ne (.str k) (.str l) = some (!(k == l)) := rfl
end

theorem t_class_of {n : Nat} {kvs : List (Int × PV)} {g : Int} {σ : St} {Q : PV → St → Prop} (q : Q ((kvGet g kvs).getD (.int 0)) σ) :
    W (callN D (n + 1) .class_of [.inst .classdef [(.classes, .dct kvs)], .int g]) σ Q := by
  refine W_callP (d := d_class_of) rfl rfl ?_
  dsimp [d_class_of]
  simp [fGet, methK, methV, q]
end Mine.B
namespace Mine.B
set_option autoImplicit false
set_option linter.unusedVariables false
set_option linter.unusedSimpArgs false
set_option maxRecDepth 100000
set_option Elab.async false
set_option backward.defeqAttrib.useBackward true

structure Rec where
  cd : Int
  g : Int
  c : Int
  m : Int
  k : SK
  id : Int
  part : Int
  cnt : Int
  u : Bool
  sp : Int
noncomputable def Rec.sg (r : Rec) (x : Int) : Rec := { r with g := x }
noncomputable def Rec.sc (r : Rec) (x : Int) : Rec := { r with c := x }
noncomputable def Rec.sid (r : Rec) (x : Int) : Rec := { r with id := x }
noncomputable def Rec.spt (r : Rec) (x : Int) : Rec := { r with part := x }
noncomputable def Rec.scn (r : Rec) (x : Int) : Rec := { r with cnt := x }
noncomputable def Rec.su (r : Rec) (x : Bool) : Rec := { r with u := x }
noncomputable def Rec.ssp (r : Rec) (x : Int) : Rec := { r with sp := x }
noncomputable def rec0 : Rec := ⟨0, 0, 0, 0, .empty, 0, 0, 0, false, 0⟩

noncomputable def recPV (r : Rec) : PV := .lst [.int r.g, .int r.c, .int r.m, .str r.k, .int r.id, .int r.part, .int r.cnt, .bool r.u, .int r.sp]
noncomputable def infF (r : Rec) : List (At × PV) := [(.code, .int r.cd), (.glyph, .int r.g), (.cluster, .int r.c), (.mask, .int r.m), (.is_unsafe, .bool r.u), (.lig_id, .int r.id), (.lig_part, .int r.part), (.lig_count, .int r.cnt), (.split_id, .int r.sp), (.kind, .str r.k),
  (.x_advance, .int 0), (.y_advance, .int 0), (.x_offset, .int 0), (.y_offset, .int 0), (.parent, .int 0), (.bond, .str .empty)]
noncomputable def rg (rs : List Rec) (k : Nat) : Rec := rs[k]?.getD rec0
theorem rg_get {rs : List Rec} {k : Nat} (h : k < rs.length) : rs[k]? = some (rg rs k) := by unfold rg; rw [List.getElem?_eq_getElem h]; rfl
theorem rg_set {rs : List Rec} {i k : Nat} {r : Rec} (h : i < rs.length) : rg (rs.set i r) k = if k = i then r else rg rs k := by
  unfold rg
  by_cases e : k = i
  · subst e; rw [if_pos rfl, List.getElem?_set_self h]; rfl
  · rw [if_neg e, List.getElem?_set_ne (fun z => e z.symm)]

section
variable {r : Rec} {x : Int} {b : Bool}
@[simp] theorem fG1 : fGet .glyph (infF r) = some (.int r.g) := rfl
@[simp] theorem fG2 : fGet .cluster (infF r) = some (.int r.c) := rfl
@[simp] theorem fG3 : fGet .mask (infF r) = some (.int r.m) := rfl
@[simp] theorem fG4 : fGet .kind (infF r) = some (.str r.k) := rfl
@[simp] theorem fG5 : fGet .lig_id (infF r) = some (.int r.id) := rfl
@[simp] theorem fG6 : fGet .lig_part (infF r) = some (.int r.part) := rfl
@[simp] theorem fG7 : fGet .lig_count (infF r) = some (.int r.cnt) := rfl
@[simp] theorem fG8 : fGet .is_unsafe (infF r) = some (.bool r.u) := rfl
@[simp] theorem fG9 : fGet .split_id (infF r) = some (.int r.sp) := rfl
@[simp] theorem fP1 : fPut .glyph (.int x) (infF r) = infF (r.sg x) := rfl
@[simp] theorem fP2 : fPut .cluster (.int x) (infF r) = infF (r.sc x) := rfl
@[simp] theorem fP5 : fPut .lig_id (.int x) (infF r) = infF (r.sid x) := rfl
@[simp] theorem fP6 : fPut .lig_part (.int x) (infF r) = infF (r.spt x) := rfl
@[simp] theorem fP7 : fPut .lig_count (.int x) (infF r) = infF (r.scn x) := rfl
@[simp] theorem fP8 : fPut .is_unsafe (.bool b) (infF r) = infF (r.su b) := rfl
@[simp] theorem fP9 : fPut .split_id (.int x) (infF r) = infF (r.ssp x) := rfl
@[simp] theorem sR0 : subV (recPV r) (.int 0) = M.pure (.int r.g) := rfl
@[simp] theorem sR1 : subV (recPV r) (.int 1) = M.pure (.int r.c) := rfl
@[simp] theorem sR2 : subV (recPV r) (.int 2) = M.pure (.int r.m) := rfl
@[simp] theorem sR3 : subV (recPV r) (.int 3) = M.pure (.str r.k) := rfl
@[simp] theorem sR4 : subV (recPV r) (.int 4) = M.pure (.int r.id) := rfl
@[simp] theorem sR5 : subV (recPV r) (.int 5) = M.pure (.int r.part) := rfl
@[simp] theorem sR6 : subV (recPV r) (.int 6) = M.pure (.int r.cnt) := rfl
@[simp] theorem sR7 : subV (recPV r) (.int 7) = M.pure (.bool r.u) := rfl
@[simp] theorem sR8 : subV (recPV r) (.int 8) = M.pure (.int r.sp) := rfl
end

section
variable {σ : St} {i : Nat} {c : Cl} {fs : List (At × PV)} {n : At} {v : PV}
theorem W_setAttr {Q : Unit → St → Prop} (h : σ[i]? = some (some (.inst c fs))) : W (setAttrV (.ref i) n v) σ Q ↔ Q () (σ.set i (some (.inst c (fPut n v fs)))) := by
  exact W_get (Q := fun ob σ => W (M.onInst ob fun c fs => M.set i (.inst c (fPut n v fs))) σ Q) h
theorem W_attr {Q : PV → St → Prop} (h : σ[i]? = some (some (.inst c fs))) : W (attrV n (.ref i)) σ Q ↔ W (M.ofOpt (fGet n fs)) σ Q := by
  exact W_get (Q := fun ob σ => W (M.onInst ob fun _ fs => M.ofOpt (fGet n fs)) σ Q) h
theorem set_self {o : Option PObj} (h : i < σ.length) : (σ.set i o)[i]? = some o := by simp [h]
theorem set_other {j : Nat} {o : Option PObj} (h : i ≠ j) : (σ.set i o)[j]? = σ[j]? := by simp [h]
theorem live_lt {o : Option PObj} (h : σ[i]? = some o) : i < σ.length := (List.getElem?_eq_some_iff.mp h).1
end

noncomputable def bufF (L : Nat) (ll : Int) : List (At × PV) := [(.row, .ref L), (.is_backward, .bool false), (.last_lig, .int ll), (.last_split, .int 0)]
section
variable {L : Nat} {ll x : Int}
@[simp] theorem fB1 : fGet .row (bufF L ll) = some (.ref L) := rfl
@[simp] theorem fB2 : fGet .last_lig (bufF L ll) = some (.int ll) := rfl
@[simp] theorem fB3 : fPut .last_lig (.int x) (bufF L ll) = bufF L x := rfl
end
noncomputable def refs (L n : Nat) : List PV := (List.range n).map fun k => .ref (L + 1 + k)
theorem refs_get {L n k : Nat} (h : k < n) : (refs L n)[k]? = some (.ref (L + 1 + k)) := by simp [refs, h]
@[simp] theorem refs_len {L n : Nat} : (refs L n).length = n := by simp [refs]

structure Buf (σ : St) (L : Nat) (rs : List Rec) (ll : Int) : Prop where
  row : σ[L]? = some (some (.list (refs L rs.length)))
  info : ∀ k, k < rs.length → σ[L + 1 + k]? = some (some (.inst .info (infF (rg rs k))))
  buf : σ[L + 1 + rs.length]? = some (some (.inst .buffer (bufF L ll)))
section
variable {σ : St} {L : Nat} {rs : List Rec} {ll : Int}
theorem Buf.lt (B : Buf σ L rs ll) : L + 1 + rs.length < σ.length := live_lt B.buf
theorem Buf.upd (B : Buf σ L rs ll) {k : Nat} (h : k < rs.length) (r : Rec) : Buf (σ.set (L + 1 + k) (some (.inst .info (infF r)))) L (rs.set k r) ll := by
  have hlt := B.lt
  refine ⟨?_, fun j hj => ?_, ?_⟩
  · rw [set_other (by with_reducible exact O.a11'), List.length_set]; exact B.row
  · rw [List.length_set] at hj
    rw [rg_set h]
    by_cases e : j = k
    · subst e; rw [set_self (by with_reducible exact O.a34n (by assumption) (by assumption)), if_pos rfl]
    · rw [set_other (by with_reducible exact O.a10 (by assumption)), if_neg e]; exact B.info j hj
  · rw [List.length_set, set_other (by with_reducible exact O.a11t (by assumption))]; exact B.buf
theorem Buf.other (B : Buf σ L rs ll) {j : Nat} (h : L + 1 + rs.length < j) (o : Option PObj) : Buf (σ.set j o) L rs ll := by
  refine ⟨?_, fun k hk => ?_, ?_⟩
  · rw [set_other (by omega)]; exact B.row
  · rw [set_other (by omega)]; exact B.info k hk
  · rw [set_other (by omega)]; exact B.buf
theorem Buf.alloc (B : Buf σ L rs ll) (o : Option PObj) : Buf (σ ++ [o]) L rs ll := by
  have hlt := B.lt
  have e : ∀ {j : Nat} {x}, σ[j]? = some x → (σ ++ [o])[j]? = some x := fun h => by rw [List.getElem?_append_left (live_lt h)]; exact h
  exact ⟨e B.row, fun k hk => e (B.info k hk), e B.buf⟩
theorem Buf.lig (B : Buf σ L rs ll) (x : Int) : Buf (σ.set (L + 1 + rs.length) (some (.inst .buffer (bufF L x)))) L rs x := by
  have hlt := B.lt
  refine ⟨?_, fun k hk => ?_, ?_⟩
  · rw [set_other (by with_reducible exact O.a11')]; exact B.row
  · rw [set_other (by with_reducible exact O.a11s (by assumption))]; exact B.info k hk
  · rw [set_self (by omega)]
end

theorem idx_nat {n k : Nat} (h : k < n) (hn : n < LIM) : idx n (k : Int) = some k := by
  unfold idx
  have : LIM = 100000 := rfl
  have h1 : fits (k : Int) = true := by rw [fits_of]; omega
  rw [if_pos h1, if_pos (by with_reducible exact O.a14i), if_pos (by omega)]
  simp
theorem idx_last {n : Nat} (h : 0 < n) (hn : n < LIM) : idx n (-1) = some (n - 1) := by
  unfold idx
  have : LIM = 100000 := rfl
  have h1 : fits (-1) = true := by rw [fits_of]; omega
  rw [if_pos h1, if_neg (by omega), if_pos (by omega)]
  congr 1
  with_reducible exact O.a21b (by assumption)
theorem item_nat {vs : List PV} {k : Nat} {v : PV} (h : vs[k]? = some v) (hn : vs.length < LIM) : itemAt vs (k : Int) = some v := by
  unfold itemAt
  rw [idx_nat (List.getElem?_eq_some_iff.mp h).1 hn]
  exact h
theorem item_last {vs : List PV} {v : PV} (h0 : 0 < vs.length) (hv : vs[vs.length - 1]? = some v) (hn : vs.length < LIM) : itemAt vs (-1) = some v := by
  unfold itemAt
  rw [idx_last h0 hn]
  exact hv
theorem sub_lst {vs : List PV} {k : Nat} {v : PV} (h : vs[k]? = some v) (hn : vs.length < LIM) : subV (.lst vs) (.int k) = M.pure v := by
  show M.ofOpt (itemAt vs k) = _
  rw [item_nat h hn]
  rfl
theorem sub_row {rs : List Rec} {k : Nat} (h : k < rs.length) (hn : rs.length < LIM) : subV (.lst (rs.map recPV)) (.int k) = M.pure (recPV (rg rs k)) :=
  sub_lst (by rw [List.getElem?_map, rg_get h]; rfl) (by simpa using hn)
theorem W_sub_ref {σ : St} {L k : Nat} {vs : List PV} {v : PV} {Q : PV → St → Prop} (h : σ[L]? = some (some (.list vs))) (hv : vs[k]? = some v) (hn : vs.length < LIM) : W (subV (.ref L) (.int k)) σ Q ↔ Q v σ := by
  refine (W_get (Q := fun o σ => W (subO o k) σ Q) h).trans ?_
  show W (M.ofOpt (itemAt vs k)) σ Q ↔ _
  rw [item_nat hv hn]
  exact Iff.rfl
theorem W_sub_last {σ : St} {L : Nat} {vs : List PV} {v : PV} {Q : PV → St → Prop} (h : σ[L]? = some (some (.list vs))) (h0 : 0 < vs.length) (hv : vs[vs.length - 1]? = some v) (hn : vs.length < LIM) : W (subV (.ref L) (.int (-1))) σ Q ↔ Q v σ := by
  refine (W_get (Q := fun o σ => W (subO o (-1)) σ Q) h).trans ?_
  show W (M.ofOpt (itemAt vs (-1))) σ Q ↔ _
  rw [item_last h0 hv hn]
  exact Iff.rfl
theorem sub_last {vs : List PV} {v : PV} (h0 : 0 < vs.length) (hv : vs[vs.length - 1]? = some v) (hn : vs.length < LIM) : subV (.lst vs) (.int (-1)) = M.pure v := by
  show M.ofOpt (itemAt vs (-1)) = _
  rw [item_last h0 hv hn]
  rfl

noncomputable def cls (g : Int) : Int := if g = 1 then 1 else if g = 2 then 1 else if g = 4 then 2 else if g = 5 then 3 else if g = 6 then 3 else 0
noncomputable def clsKvs : List (Int × PV) := [(1, .int 1), (2, .int 1), (4, .int 2), (5, .int 3), (6, .int 3)]
theorem cls_get (g : Int) : (kvGet g clsKvs).getD (.int 0) = .int (cls g) := by
  unfold cls clsKvs
  simp only [kvGet]
  repeat (split; · rfl)
  rfl
theorem cls_cases (g : Int) : cls g = 0 ∨ cls g = 1 ∨ cls g = 2 ∨ cls g = 3 := by
  unfold cls
  split; · exact .inr (.inl rfl)
  split; · exact .inr (.inl rfl)
  split; · exact .inr (.inr (.inl rfl))
  split; · exact .inr (.inr (.inr rfl))
  split; · exact .inr (.inr (.inr rfl))
  exact .inl rfl
noncomputable def gdV : PV := .inst .gdef [(.classes, .inst .classdef [(.classes, .dct clsKvs)]), (.attach, .inst .classdef [(.classes, .dct [])]), (.sets, .lst []), (.points, .dct []), (.carets, .dct [])]
noncomputable def lkV (p : Bool) : PV := .inst .lookup [(.kind, .str .ligature), (.flag, .int (if p then 8 else 0)), (.mark_set, .int 0), (.tables, .lst [])]
noncomputable def scV (b : Nat) (p : Bool) : PV := .inst .scene [(.buffer, .ref b), (.gdef, gdV), (.lookups, .lst [lkV p]), (.lookup, lkV p), (.mask, .int 1), (.depth, .int 0), (.steps, .lst [.int 0])]

@[simp] theorem aGd : attrV .classes gdV = M.pure (.inst .classdef [(.classes, .dct clsKvs)]) := rfl
@[simp] theorem aLk {p : Bool} : attrV .flag (lkV p) = M.pure (.int (if p then 8 else 0)) := rfl
@[simp] theorem aSc1 {b : Nat} {p : Bool} : attrV .buffer (scV b p) = M.pure (.ref b) := rfl
@[simp] theorem aSc2 {b : Nat} {p : Bool} : attrV .gdef (scV b p) = M.pure gdV := rfl
@[simp] theorem aSc3 {b : Nat} {p : Bool} : attrV .lookup (scV b p) = M.pure (lkV p) := rfl
@[simp] theorem aSc4 {b : Nat} {p : Bool} : attrV .mask (scV b p) = M.pure (.int 1) := rfl
@[simp] theorem mGd : methK .glyph_class gdV = M.pure (some .glyph_class) := rfl
@[simp] theorem mCd {kvs : List (Int × PV)} : methK .class_of (.inst .classdef [(.classes, .dct kvs)]) = M.pure (some .class_of) := rfl
@[simp] theorem mDct {kvs : List (Int × PV)} : methK .get (.dct kvs) = M.pure none := rfl
@[simp] theorem vDct {kvs : List (Int × PV)} {k : Int} {d : PV} : methV .get (.dct kvs) [.int k, d] = M.pure ((kvGet k kvs).getD d) := rfl
section
variable {n : Nat} {σ : St} {Q : PV → St → Prop}
theorem p_class_of {g : Int} (q : Q (.int (cls g)) σ) : W (callN D (n + 1) .class_of [.inst .classdef [(.classes, .dct clsKvs)], .int g]) σ Q := by
  refine W_callP (d := d_class_of) rfl rfl ?_
  dsimp [d_class_of]
  simp [fGet, cls_get, q]
theorem p_glyph_class {g : Int} (q : Q (.int (cls g)) σ) : W (callN D (n + 2) .glyph_class [gdV, .int g]) σ Q := by
  refine W_callP (d := d_glyph_class) rfl rfl ?_
  dsimp [d_glyph_class]
  refine p_class_of ?_
  rcases cls_cases g with h | h | h | h <;> simp [h] <;> (rw [h] at q; exact q)
theorem p_class_bit {g : Int} (q : ∀ b : Int, (g = 3 → b = 8) → (g ≠ 3 → b = 0 ∨ b = 2 ∨ b = 4) → Q (.int b) σ) : W (callN D (n + 1) .class_bit [.int g]) σ Q := by
  refine W_callP (d := d_class_bit) rfl rfl ?_
  dsimp [d_class_bit]
  simp [kvPutAll, kvPut, kvGet]
  split
  · exact q 2 (by omega) (by simp)
  · split
    · exact q 4 (by omega) (by simp)
    · split
      · exact q 8 (by simp) (by omega)
      · exact q 0 (by omega) (by simp)
theorem p_attach_wanted (q : Q (.int 0) σ) : W (callN D (n + 1) .attach_wanted [.int 0]) σ Q := by
  refine W_callP (d := d_attach_wanted) rfl rfl ?_
  dsimp [d_attach_wanted]
  simpa [binV, fits, BIG] using q
theorem bv_band {a b : Int} (ha : 0 ≤ a) (hb : 0 ≤ b) : binV .band (.int a) (.int b) = some (.int ((a.toNat &&& b.toNat : Nat) : Int)) := if_pos ⟨ha, hb⟩
theorem p_is_ignored {g : Int} {p : Bool} (q : Q (.bool (p && decide (cls g = 3))) σ) : W (callN D (n + 3) .is_ignored [gdV, lkV p, .int g]) σ Q := by
  refine W_callP (d := d_is_ignored) rfl rfl ?_
  dsimp [d_is_ignored]
  refine p_glyph_class ?_
  simp
  refine p_class_bit fun b h1 h2 => ?_
  cases p with
  | true =>
    by_cases h : cls g = 3
    · rw [h1 h]
      simpa [binV, h] using q
    · rcases h2 h with rfl | rfl | rfl <;> simpa [binV, h] using q
  | false =>
    have hb : 0 ≤ b := by
      by_cases h : cls g = 3
      · rw [h1 h]; decide
      · rcases h2 h with rfl | rfl | rfl <;> decide
    by_cases h : cls g = 3
    · simp [h, binV, hb]
      refine p_attach_wanted ?_
      simpa [h] using q
    · simpa [binV, hb, h] using q
end
end Mine.B
namespace Mine.B
set_option autoImplicit false
set_option linter.unusedVariables false
set_option linter.unusedSimpArgs false
set_option maxRecDepth 100000
set_option Elab.async false
set_option backward.defeqAttrib.useBackward true

section
variable {σ : St} {L : Nat} {rs : List Rec} {ll : Int}
theorem Buf.a_row (B : Buf σ L rs ll) {Q : PV → St → Prop} : W (attrV .row (.ref (L + 1 + rs.length))) σ Q ↔ Q (.ref L) σ := by rw [W_attr B.buf]; simp
theorem Buf.a_sub (B : Buf σ L rs ll) {k : Nat} {Q : PV → St → Prop} (hk : k < rs.length) (hn : rs.length < LIM) : W (subV (.ref L) (.int k)) σ Q ↔ Q (.ref (L + 1 + k)) σ :=
  W_sub_ref B.row (refs_get hk) (by simpa using hn)
theorem Buf.a_info (B : Buf σ L rs ll) {k : Nat} {a : At} {Q : PV → St → Prop} (hk : k < rs.length) : W (attrV a (.ref (L + 1 + k))) σ Q ↔ W (M.ofOpt (fGet a (infF (rg rs k)))) σ Q := W_attr (B.info k hk)
theorem Buf.a_len (B : Buf σ L rs ll) {Q : PV → St → Prop} : W (builtinM .len [.ref L]) σ Q ↔ Q (.int rs.length) σ := by
  refine (W_get (Q := fun o σ => W (M.onList o fun vs => M.pure (.int vs.length)) σ Q) B.row).trans ?_
  simp
end

noncomputable def okK (k : SK) : Bool := k == .zwj || k == .hidden
@[simp] theorem cv_kinds {k : SK} : cmpV .notin (.str k) (.tup [.str .zwj, .str .hidden]) = some (!okK k) := by cases k <;> rfl
@[simp] theorem bi_len_tup {vs : List PV} : builtinM .len [.tup vs] = M.pure (.int vs.length) := rfl
@[simp] theorem bi_len_lst {vs : List PV} : builtinM .len [.lst vs] = M.pure (.int vs.length) := rfl
noncomputable def testV (x : Int) : PV := .tup [.str .glyph, .int x]
@[simp] theorem test0 {x : Int} : subV (testV x) (.int 0) = M.pure (.str .glyph) := rfl
@[simp] theorem test1 {x : Int} : subV (testV x) (.int 1) = M.pure (.int x) := rfl

structure Ok (r : Rec) : Prop where
  m : r.m = 2 ∨ r.m = 3
  id : 0 ≤ r.id
  part : 0 ≤ r.part

section
variable {n : Nat} {σ : St} {Q : PV → St → Prop} {L : Nat} {rs : List Rec} {ll : Int} {p : Bool}
theorem p_passes (B : Buf σ L rs ll) (hn : rs.length < LIM) {k : Nat} (hk : k < rs.length) (q : Q (.bool (p && decide (cls (rg rs k).g = 3))) σ) : W (callN D (n + 4) .passes [scV (L + 1 + rs.length) p, .int k]) σ Q := by
  refine W_callP (d := d_passes) rfl rfl ?_
  dsimp [d_passes]
  simp [B.a_row, B.a_sub hk hn, B.a_info hk]
  exact p_is_ignored q
theorem p_fits {x g : Int} (q : Q (.bool (decide (x = g))) σ) : W (callN D (n + 1) .fits [testV x, .int g]) σ Q := by
  refine W_callP (d := d_fits) rfl rfl ?_
  dsimp [d_fits]
  simpa using q
theorem p_is_borne (B : Buf σ L rs ll) {k : Nat} (hk : k < rs.length) (ho : Ok (rg rs k)) {b : Nat} (q : Q (.bool (decide ((rg rs k).m % 2 = 1))) σ) : W (callN D (n + 1) .is_borne [scV b p, .ref (L + 1 + k)]) σ Q := by
  refine W_callP (d := d_is_borne) rfl rfl ?_
  dsimp [d_is_borne]
  simp [B.a_info hk]
  rcases ho.m with h | h <;> (rw [h] at q ⊢; exact q)

noncomputable def fnd (p : Bool) (x : Int) (rs : List Rec) : Nat → Nat → Option Nat
  | 0, _ => none
  | f + 1, h => if p && decide (cls (rg rs h).g = 3) then fnd p x rs f (h + 1)
    else if decide (x = (rg rs h).g) && decide ((rg rs h).m % 2 = 1) then some h
    else if okK (rg rs h).k then fnd p x rs f (h + 1) else none
noncomputable def fndV : Option Nat → PV
  | some h => .int h
  | none => .int (-1)

theorem p_found_at (B : Buf σ L rs ll) (hn : rs.length < 150) (ho : ∀ k, k < rs.length → Ok (rg rs k)) {k : Nat} {x : Int} (hk : k < rs.length) (q : Q (fndV (fnd p x rs (rs.length - (k + 1)) (k + 1))) σ) :
    W (callN D (n + 5) .found_at [scV (L + 1 + rs.length) p, .int k, .int 1, testV x, .tup [.str .zwj, .str .hidden], .bool true]) σ Q := by
  have hL : rs.length < LIM := by have : LIM = 100000 := rfl; omega
  refine W_callP (d := d_found_at) rfl rfl ?_
  dsimp [d_found_at]
  obtain ⟨I, hI⟩ : ∃ I : Nat → Env → St → Prop, ∀ m ρ σ', I m ρ σ' ↔ σ' = σ ∧ ∃ (h : Nat) (v : Option PV), h ≤ rs.length ∧ m = rs.length - h ∧ ρ = [some (scV (L + 1 + rs.length) p), some (.int k), some (.int 1), some (testV x), some (.tup [.str .zwj, .str .hidden]), some (.bool true), some (.int h), v] ∧
    fnd p x rs (rs.length - (k + 1)) (k + 1) = fnd p x rs m h := ⟨_, fun _ _ _ => Iff.rfl⟩
  refine W_while I (fun m ρ σ' hi => ?_) (rs.length - (k + 1)) _ _ (by unfold WH; with_reducible exact O.a6 (by assumption)) ((hI _ _ _).mpr ⟨rfl, k + 1, none, by with_reducible exact O.a8 (by assumption), rfl, rfl, rfl⟩)
  obtain ⟨rfl, h, v, h1, rfl, rfl, h3⟩ := (hI _ _ _).mp hi
  by_cases hlt : h < rs.length
  · simp [B.a_row, B.a_len, hlt]
    refine ⟨by with_reducible exact O.a5 (by assumption), ?_⟩
    refine p_passes B hL hlt ?_
    obtain ⟨f, hf⟩ : ∃ f, rs.length - h = f + 1 := ⟨rs.length - h - 1, by with_reducible exact O.a1 (by assumption)⟩
    rw [hf, fnd] at h3
    have go : ∀ v, fnd p x rs (rs.length - (k + 1)) (k + 1) = fnd p x rs f (h + 1) → I (rs.length - h - 1) [some (scV (L + 1 + rs.length) p), some (.int k), some (.int 1), some (testV x), some (.tup [.str .zwj, .str .hidden]), some (.bool true), some (.int ((h : Int) + 1)), v] σ' :=
      fun v e => (hI _ _ _).mpr ⟨rfl, h + 1, v, hlt, by with_reducible exact O.a4, rfl, by rw [e]; congr 1; with_reducible exact O.a2 (by assumption)⟩
    cases hp : (p && decide (cls (rg rs h).g = 3)) with
    | true =>
      rw [hp, if_pos rfl] at h3
      simpa using go _ h3
    | false =>
      rw [hp, if_neg (by simp)] at h3
      simp [B.a_row, B.a_sub hlt hL, B.a_info hlt]
      refine p_fits ?_
      by_cases hx : x = (rg rs h).g
      · simp [hx]
        refine p_is_borne B hlt (ho h hlt) ?_
        by_cases hm : (rg rs h).m % 2 = 1
        · have e3 : fnd p x rs (rs.length - (k + 1)) (k + 1) = some h := by rw [h3]; simp [hx, hm]
          rw [e3] at q
          simpa [hm, fndV] using q
        · rw [if_neg (by simp [hm])] at h3
          simp [hm, B.a_info hlt]
          cases hk : okK (rg rs h).k with
          | true => rw [hk, if_pos rfl] at h3; simpa [hx] using go _ h3
          | false => rw [hk, if_neg (by simp)] at h3; rw [h3] at q; simpa [fndV] using q
      · rw [if_neg (by simp [hx])] at h3
        simp [hx, B.a_info hlt]
        cases hk : okK (rg rs h).k with
        | true => rw [hk, if_pos rfl] at h3; simpa using go _ h3
        | false => rw [hk, if_neg (by simp)] at h3; rw [h3] at q; simpa [fndV] using q
  · have e1 : h = rs.length := by with_reducible exact O.a7 (by assumption) (by assumption)
    subst e1
    have e3 : fnd p x rs (rs.length - (k + 1)) (k + 1) = none := by rw [h3, Nat.sub_self]; rfl
    rw [e3] at q
    simpa [B.a_row, B.a_len, fndV] using q
end
end Mine.B
namespace Mine.B
set_option autoImplicit false
set_option linter.unusedVariables false
set_option linter.unusedSimpArgs false
set_option maxRecDepth 100000
set_option Elab.async false
set_option backward.defeqAttrib.useBackward true

theorem mapL_same {f : PV → M PV} {p : PV → Bool} (hf : ∀ (v : PV) (σ : St) (Q : PV → St → Prop), p v = true → (W (f v) σ Q ↔ Q v σ)) (vs : List PV) : ∀ (σ : St) (Q : List PV → St → Prop), vs.all p = true → (W (mapL f vs) σ Q ↔ Q vs σ) := by
  induction vs with
  | nil => exact fun σ Q _ => Iff.rfl
  | cons v r ih =>
    intro σ Q h
    obtain ⟨h1, h2⟩ := Bool.and_eq_true_iff.mp h
    exact (hf v σ (fun x σ' => W (mapL f r) σ' fun xs σ'' => Q (x :: xs) σ'') h1).trans (ih σ (fun xs σ'' => Q (v :: xs) σ'') h2)
theorem freeze_flat (d : Nat) : ∀ (n : Nat) (v : PV) (σ : St) (Q : PV → St → Prop), flatN d v = true → (W (freeze n v) σ Q ↔ Q v σ) := by
  induction d with
  | zero =>
    intro n v σ Q h
    cases n with
    | zero => exact Iff.rfl
    | succ n => cases v <;> first | exact Iff.rfl | cases h
  | succ d ih =>
    intro n v σ Q h
    cases n with
    | zero => exact Iff.rfl
    | succ n =>
      cases v with
      | tup vs => exact mapL_same (ih n) vs σ (fun us σ => Q (.tup us) σ) h
      | lst vs => exact mapL_same (ih n) vs σ (fun us σ => Q (.lst us) σ) h
      | _ => first | exact Iff.rfl | cases h
theorem W_freeze_list {n d i : Nat} {vs : List PV} {σ : St} {Q : PV → St → Prop} (h : σ[i]? = some (some (.list vs))) (hf : vs.all (flatN d) = true) : W (freeze (n + 1) (.ref i)) σ Q ↔ Q (.lst vs) (σ.set i none) :=
  (W_get (Q := fun o σ => W (frzO (freeze n) i o) σ Q) h).trans (mapL_same (freeze_flat d n) vs (σ.set i none) (fun us σ => Q (.lst us) σ) hf)

@[simp] theorem bi_tuple {vs : List PV} : builtinM .tuple [.lst vs] = M.pure (.tup vs) := rfl
@[simp] theorem bi_list {vs : List PV} : builtinM .list [.lst vs] = M.pure (.lst vs) := rfl
@[simp] theorem bi_int {i : Int} : builtinM .int [.int i] = M.pure (.int i) := rfl
@[simp] theorem bi_abs {i : Int} : builtinM .abs [.int i] = M.pure (.int i.natAbs) := rfl
@[simp] theorem bi_min {a b : Int} : builtinM .min [.int a, .int b] = M.pure (.int (if b < a then b else a)) := rfl
@[simp] theorem bi_max {a b : Int} : builtinM .max [.int a, .int b] = M.pure (.int (if a < b then b else a)) := rfl

theorem W_append_k {i : Nat} {vs : List PV} {σ : St} {Q : Option Fn → St → Prop} (h : σ[i]? = some (some (.list vs))) : W (methK .append (.ref i)) σ Q ↔ Q none σ :=
  W_get (Q := fun ob σ => W (M.onList ob fun _ => M.pure none) σ Q) h
theorem W_append {i : Nat} {vs : List PV} {v : PV} {σ : St} {Q : PV → St → Prop} (h : σ[i]? = some (some (.list vs))) (hl : vs.length < LIM) : W (methV .append (.ref i) [v]) σ Q ↔ Q .none (σ.set i (some (.list (vs ++ [v])))) :=
  (W_get (Q := fun ob σ => W (M.onList ob fun vs => M.bind (M.must vs.length) fun _ => M.bind (M.set i (.list (vs ++ [v]))) fun _ => M.pure PV.none) σ Q) h).trans (Eq.to_iff (fit_lim hl))

section
variable {n : Nat} {σ : St} {Q : PV → St → Prop} {L : Nat} {rs : List Rec} {ll : Int} {p : Bool}
theorem p_glyph_tests {gs : List Int} (hl : gs.length < LIM) (q : Q (.tup (gs.map testV)) σ) : W (callN D (n + 1) .glyph_tests [.tup (gs.map .int)]) σ Q := by
  refine W_callP (d := d_glyph_tests) rfl rfl ?_
  dsimp [d_glyph_tests]
  have h3 : 3 < LIM := by decide
  simp [hl, h3]
  refine W_mapL (g := fun v => .tup [.str .glyph, v]) (fun v hv => ?_) ?_
  · exact ⟨rfl, rfl⟩
  · rw [show testV = fun x => .tup [.str .glyph, .int x] from rfl] at q
    simpa [Function.comp_def] using q

noncomputable def chase (p : Bool) (rs : List Rec) : List Int → Nat → Option (List Nat)
  | [], _ => some []
  | x :: r, k => match fnd p x rs (rs.length - (k + 1)) (k + 1) with
    | none => none
    | some h => (chase p rs r h).map (h :: ·)
noncomputable def plV (l : List Nat) : List PV := l.map fun (k : Nat) => .int (k : Int)
noncomputable def plans (p : Bool) (rs : List Rec) (rest : List Int) (k : Nat) : Option (List Nat) := (chase p rs rest k).map (k :: ·)
noncomputable def placesV : Option (List Nat) → PV
  | none => .none
  | some l => .lst (plV l)
theorem fnd_lt {x : Int} : ∀ {f h j : Nat}, fnd p x rs f h = some j → h ≤ j ∧ j < h + f
  | 0, _, _, e => by simp [fnd] at e
  | f + 1, h, j, e => by
    rw [fnd] at e
    split at e
    · have := fnd_lt e; with_reducible exact O.a25b (by assumption)
    · split at e
      · cases e; with_reducible exact O.a25c
      · split at e
        · have := fnd_lt e; with_reducible exact O.a25b (by assumption)
        · cases e
theorem flat_int (n : Nat) (i : Int) : flatN n (.int i) = true := by cases n <;> rfl
theorem flat_ints {α : Type} (n : Nat) (f : α → Int) (xs : List α) : (xs.map fun x => PV.int (f x)).all (flatN n) = true := by
  rw [List.all_eq_true]
  intro t ht
  obtain ⟨x, _, rfl⟩ := List.mem_map.mp ht
  exact flat_int n _
theorem plV_flat (l : List Nat) : (plV l).all (flatN 0) = true := flat_ints 0 (fun (k : Nat) => (k : Int)) l

theorem p_input_at (B : Buf σ L rs ll) (hn : rs.length < 150) (ho : ∀ k, k < rs.length → Ok (rg rs k)) {k : Nat} {rest : List Int} (hr : rest.length < 150) (hk : k < rs.length) (q : ∀ σ', Buf σ' L rs ll → Q (placesV (plans p rs rest k)) σ') :
    W (callN D (n + 6) .input_at [scV (L + 1 + rs.length) p, .int k, .tup (((rg rs k).g :: rest).map testV)]) σ Q := by
  have hL : rs.length < LIM := by have : LIM = 100000 := rfl; omega
  have hL2 : rest.length + 1 < LIM := by have : LIM = 100000 := rfl; omega
  have h3 : 3 < LIM := by decide
  refine W_callP (d := d_input_at) rfl rfl ?_
  dsimp [d_input_at]
  have e0 : subV (.tup (testV (rg rs k).g :: rest.map testV)) (.int 0) = M.pure (testV (rg rs k).g) := by
    show M.ofOpt (itemAt _ ((0 : Nat) : Int)) = _
    rw [item_nat (v := testV (rg rs k).g) rfl (by simpa using hL2)]
    rfl
  simp [e0, B.a_row, B.a_sub hk hL, B.a_info hk]
  refine p_fits ?_
  simp
  obtain ⟨I, hI⟩ : ∃ I : Nat → Env → St → Prop, ∀ i ρ σ', I i ρ σ' ↔ Buf σ' L rs ll ∧ ∃ (acc : List Nat) (j : Nat) (u v : Option PV), acc ≠ [] ∧ acc.length ≤ i + 1 ∧ acc.getLast? = some j ∧ j < rs.length ∧ σ'[σ.length]? = some (some (.list (plV acc))) ∧
      ρ = [some (scV (L + 1 + rs.length) p), some (.int k), some (.tup (testV (rg rs k).g :: rest.map testV)), some (.ref σ.length), u, v] ∧ plans p rs rest k = (chase p rs (rest.drop i) j).map (acc ++ ·) := ⟨_, fun _ _ _ => Iff.rfl⟩
  have hσ := B.lt
  refine W_forL I (rest.map testV) 0 _ _ (fun i ρ σ' t ht hi => ?_) (fun ρ σ' hi => ?_) ((hI _ _ _).mpr ⟨B.alloc _, [k], k, none, none, by simp, by simp, rfl, hk, by simp [plV], rfl, by simp [plans]⟩)
  · rw [Nat.zero_add] at hi ⊢
    obtain ⟨B', acc, j, u, v, a1, a2, a3, a4, a5, rfl, a6⟩ := (hI _ _ _).mp hi
    obtain ⟨x, hx, rfl⟩ : ∃ x, rest[i]? = some x ∧ t = testV x := by
      rw [List.getElem?_map] at ht
      cases hx : rest[i]? with
      | none => rw [hx] at ht; cases ht
      | some x => rw [hx] at ht; cases ht; exact ⟨x, rfl, rfl⟩
    have hir : i < rest.length := (List.getElem?_eq_some_iff.mp hx).1
    have hdrop : rest.drop i = x :: rest.drop (i + 1) := by
      rw [List.drop_eq_getElem_cons hir]
      rw [List.getElem?_eq_getElem hir] at hx
      cases hx; rfl
    have h0 : 0 < acc.length := List.length_pos_iff.mpr a1
    have hlast : (plV acc)[(plV acc).length - 1]? = some (.int j) := by
      simp only [plV, List.length_map, List.getElem?_map]
      rw [← List.getLast?_eq_getElem?, a3]; rfl
    simp
    rw [W_sub_last a5 (by simpa [plV] using h0) hlast (by simp [plV]; exact lim_small (by with_reducible exact O.a13m (by assumption) (by assumption) (by assumption)))]
    refine p_found_at B' hn ho a4 ?_
    rw [hdrop, chase] at a6
    cases hf : fnd p x rs (rs.length - (j + 1)) (j + 1) with
    | none =>
      rw [hf] at a6
      simp [fndV]
      have := q σ' B'
      rw [a6] at this
      exact this
    | some h =>
      rw [hf] at a6
      have hb := fnd_lt hf
      have hnot : ¬ ((h : Int) < 0) := by omega
      simp [fndV, hnot]
      rw [W_append_k a5]
      simp
      rw [W_append a5 (by simp [plV]; exact lim_small (by with_reducible exact O.a13m (by assumption) (by assumption) (by assumption)))]
      refine (hI _ _ _).mpr ⟨B'.other hσ _, acc ++ [h], h, _, _, by simp, by simp; omega, by simp, by with_reducible exact O.a23 (by assumption) (by assumption), ?_, rfl, ?_⟩
      · rw [set_self (live_lt a5)]
        simp [plV]
      · rw [a6, Option.map_map]
        congr 1
        funext l
        simp
  · rw [Nat.zero_add, List.length_map] at hi
    obtain ⟨B', acc, j, u, v, a1, a2, a3, a4, a5, rfl, a6⟩ := (hI _ _ _).mp hi
    simp
    rw [W_freeze_list a5 (plV_flat acc)]
    rw [List.drop_of_length_le (Nat.le_refl _)] at a6
    have := q _ (B'.other hσ none)
    rw [a6] at this
    simpa [chase, placesV] using this
end
end Mine.B
namespace Mine.B
set_option autoImplicit false
set_option linter.unusedVariables false
set_option linter.unusedSimpArgs false
set_option maxRecDepth 100000
set_option Elab.async false
set_option backward.defeqAttrib.useBackward true

@[simp] theorem sl_lst1 {x : PV} {xs : List PV} : sliceV (.lst (x :: xs)) (.int 1) .none = M.pure (.lst xs) := by
  have hb : boundL (x :: xs).length (.int 1) = some 1 := by
    unfold boundL clampB fits BIG
    simp
  show M.ofOpt (Option.map PV.lst ((boundL (x :: xs).length (.int 1)).bind fun a => some (((x :: xs).take (x :: xs).length).drop a))) = _
  rw [hb, List.take_length]
  rfl
@[simp] theorem sl_pl1 {k : Nat} {l : List Nat} : sliceV (.lst (plV (k :: l))) (.int 1) .none = M.pure (.lst (plV l)) := sl_lst1
theorem plV_get {l : List Nat} {i : Nat} {t : PV} (h : (plV l)[i]? = some t) : ∃ j : Nat, l[i]? = some j ∧ t = .int j := by
  unfold plV at h
  rw [List.getElem?_map] at h
  cases hx : l[i]? with
  | none => rw [hx] at h; cases h
  | some x => rw [hx] at h; cases h; exact ⟨x, rfl, rfl⟩
theorem pl_get {l : List Nat} {i j : Nat} (h : l[i]? = some j) : (plV l)[i]? = some (.int j) := by unfold plV; rw [List.getElem?_map, h]; rfl
@[simp] theorem pl_len {l : List Nat} : (plV l).length = l.length := by simp [plV]
theorem drop_at {α : Type} {l : List α} {i : Nat} {j : α} (h : l[i]? = some j) : l.drop i = j :: l.drop (i + 1) := by
  have hir : i < l.length := (List.getElem?_eq_some_iff.mp h).1
  rw [List.drop_eq_getElem_cons hir]
  rw [List.getElem?_eq_getElem hir] at h
  cases h; rfl
theorem cv_net {a b c d : Int} : cmpV .ne (.tup [.int a, .int b]) (.tup [.int c, .int d]) = some (!(decide (a = c) && decide (b = d))) := by
  simp only [← eqb_int]
  show some (!((a == c) && ((b == d) && true))) = _
  rw [Bool.and_true]

noncomputable def pc (r : Rec) : Bool := !decide (r.id = 0) && !decide (r.part = 0)
noncomputable def holdOk (f o : Rec) : Bool := if pc f then decide (o.id = f.id) && decide (o.part = f.part) else !(pc o && !decide (o.id = f.id))

section
variable {n : Nat} {σ : St} {Q : PV → St → Prop} {L : Nat} {rs : List Rec} {ll : Int} {p : Bool}
theorem p_is_piece (B : Buf σ L rs ll) {k : Nat} (hk : k < rs.length) (q : Q (.bool (pc (rg rs k))) σ) : W (callN D (n + 1) .is_piece [.ref (L + 1 + k)]) σ Q := by
  refine W_callP (d := d_is_piece) rfl rfl ?_
  dsimp [d_is_piece]
  simp [B.a_info hk]
  by_cases h : (rg rs k).id = 0
  · simpa [h, pc] using q
  · simpa [h, pc, B.a_info hk] using q
theorem p_hold (B : Buf σ L rs ll) (hn : rs.length < LIM) {k : Nat} {l : List Nat} (hk : k < rs.length) (hl : ∀ j ∈ l, j < rs.length) (hll : l.length + 1 < LIM) (q : Q (.bool (l.all fun j => holdOk (rg rs k) (rg rs j))) σ) :
    W (callN D (n + 2) .hold_together [.ref L, .lst (plV (k :: l))]) σ Q := by
  refine W_callP (d := d_hold_together) rfl rfl ?_
  dsimp [d_hold_together]
  have e0 : subV (.lst (plV (k :: l))) (.int 0) = M.pure (.int k) := by
    rw [show (0 : Int) = ((0 : Nat) : Int) from rfl]
    exact sub_lst rfl (by simp [plV]; omega)
  simp [e0, B.a_sub hk hn]
  obtain ⟨I, hI⟩ : ∃ I : Nat → Env → St → Prop, ∀ i ρ σ', I i ρ σ' ↔ σ' = σ ∧ ∃ (u v : Option PV), ρ = [some (.ref L), some (.lst (plV (k :: l))), some (.ref (L + 1 + k)), u, v] ∧
      l.all (fun j => holdOk (rg rs k) (rg rs j)) = (l.drop i).all (fun j => holdOk (rg rs k) (rg rs j)) := ⟨_, fun _ _ _ => Iff.rfl⟩
  refine W_forL I _ 0 _ _ (fun i ρ σ' t ht hi => ?_) (fun ρ σ' hi => ?_) ((hI _ _ _).mpr ⟨rfl, none, none, rfl, rfl⟩)
  · rw [Nat.zero_add] at hi ⊢
    obtain ⟨rfl, u, v, rfl, a6⟩ := (hI _ _ _).mp hi
    obtain ⟨j, hj, rfl⟩ := plV_get ht
    have hjr := hl j (List.mem_of_getElem? hj)
    rw [drop_at hj, List.all_cons] at a6
    simp [B.a_sub hjr hn]
    refine p_is_piece B hk ?_
    have go : holdOk (rg rs k) (rg rs j) = true → I (i + 1) [some (.ref L), some (.lst (plV (k :: l))), some (.ref (L + 1 + k)), some (.int j), some (.ref (L + 1 + j))] σ' := fun e => by
      rw [e, Bool.true_and] at a6
      exact (hI _ _ _).mpr ⟨rfl, _, _, rfl, a6⟩
    have no : holdOk (rg rs k) (rg rs j) = false → Q (.bool false) σ' := fun e => by
      rw [e, Bool.false_and] at a6
      rw [a6] at q
      exact q
    cases hp : pc (rg rs k) with
    | true =>
      simp [B.a_info hjr, B.a_info hk, cv_net]
      by_cases h1 : (rg rs j).id = (rg rs k).id
      · by_cases h2 : (rg rs j).part = (rg rs k).part
        · simpa [h1, h2] using go (by simp [holdOk, hp, h1, h2])
        · simpa [h1, h2] using no (by simp [holdOk, hp, h1, h2])
      · simpa [h1] using no (by simp [holdOk, hp, h1])
    | false =>
      simp
      refine p_is_piece B hjr ?_
      cases hp2 : pc (rg rs j) with
      | false => simpa using go (by simp [holdOk, hp, hp2])
      | true =>
        simp [B.a_info hjr, B.a_info hk]
        by_cases h1 : (rg rs j).id = (rg rs k).id
        · simpa [h1] using go (by simp [holdOk, hp, h1])
        · simpa [h1] using no (by simp [holdOk, hp, hp2, h1])
  · rw [Nat.zero_add, pl_len] at hi
    obtain ⟨rfl, u, v, rfl, a6⟩ := (hI _ _ _).mp hi
    rw [List.drop_of_length_le (Nat.le_refl _)] at a6
    rw [a6] at q
    simpa using q
end
end Mine.B
namespace Mine.B
set_option autoImplicit false
set_option linter.unusedVariables false
set_option linter.unusedSimpArgs false
set_option maxRecDepth 100000
set_option Elab.async false
set_option backward.defeqAttrib.useBackward true

noncomputable def partB (r : Rec) (count : Int) : Int := if 0 < r.part then (if count < r.part then count else r.part) else count
noncomputable def tieR (id ahead count : Int) (r : Rec) : Rec := { r with id := id, part := ahead + partB r count, cnt := 0 }
noncomputable def cntOf (r : Rec) : Int := if r.cnt < 1 then 1 else r.cnt
noncomputable def setC (least : Int) (r : Rec) : Rec := if r.c = least then r else { r with c := least, u := false }
noncomputable def updR (f : Rec → Rec) : Nat → Nat → List Rec → List Rec
  | 0, _, rs => rs
  | n + 1, s, rs => updR f n (s + 1) (rs.set s (f (rg rs s)))
theorem updR_len {f : Rec → Rec} : ∀ {n s : Nat} {rs : List Rec}, (updR f n s rs).length = rs.length
  | 0, _, _ => rfl
  | n + 1, s, rs => by rw [updR, updR_len, List.length_set]
theorem updR_rg {f : Rec → Rec} : ∀ {n s k : Nat} {rs : List Rec}, s + n ≤ rs.length → rg (updR f n s rs) k = if s ≤ k ∧ k < s + n then f (rg rs k) else rg rs k
  | 0, s, k, rs, h => by rw [updR, if_neg (by omega)]
  | n + 1, s, k, rs, h => by
    rw [updR, updR_rg (by rw [List.length_set]; with_reducible exact O.a25d (by assumption)), rg_set (by omega)]
    by_cases e : k = s
    · subst e; rw [if_neg (by omega), if_pos rfl, if_pos (by with_reducible exact O.a25c)]
    · rw [if_neg e]
      by_cases e2 : s + 1 ≤ k ∧ k < s + 1 + n
      · rw [if_pos e2, if_pos (by with_reducible exact O.a25b (by assumption))]
      · rw [if_neg e2, if_neg (by with_reducible exact O.a25a (by assumption) (by assumption))]

section
variable {n : Nat} {σ : St} {Q : PV → St → Prop} {L : Nat} {rs : List Rec} {ll : Int} {p : Bool}
theorem W_setB (B : Buf σ L rs ll) {k : Nat} (hk : k < rs.length) {a : At} {v : PV} {r' : Rec} {Q : Unit → St → Prop} (hf : fPut a v (infF (rg rs k)) = infF r') (q : ∀ σ', Buf σ' L (rs.set k r') ll → Q () σ') : W (setAttrV (.ref (L + 1 + k)) a v) σ Q := by
  rw [W_setAttr (B.info k hk), hf]
  exact q _ (B.upd hk r')
theorem set_rg {k : Nat} (h : k < rs.length) : rs.set k (rg rs k) = rs := by
  apply List.ext_getElem?
  intro i
  rw [List.getElem?_set]
  split
  · rename_i e; subst e; first | rw [if_pos h, rg_get h] | rw [rg_get h]
  · rfl
theorem W_setK {k : Nat} (hk : k < rs.length) {r r' : Rec} (B : Buf σ L (rs.set k r) ll) {a : At} {v : PV} {Q : Unit → St → Prop} (hf : fPut a v (infF r) = infF r') (q : ∀ σ', Buf σ' L (rs.set k r') ll → Q () σ') : W (setAttrV (.ref (L + 1 + k)) a v) σ Q := by
  have hk1 : k < (rs.set k r).length := by rw [List.length_set]; exact hk
  refine W_setB B hk1 (r' := r') ?_ fun σ' B' => q σ' ?_
  · rw [rg_set hk, if_pos rfl]; exact hf
  · rw [List.set_set] at B'; exact B'
theorem W_set0 (B : Buf σ L rs ll) {k : Nat} (hk : k < rs.length) : Buf σ L (rs.set k (rg rs k)) ll := by rw [set_rg hk]; exact B
theorem p_part_count (B : Buf σ L rs ll) {k : Nat} (hk : k < rs.length) (q : Q (.int (cntOf (rg rs k))) σ) : W (callN D (n + 1) .part_count [.ref (L + 1 + k)]) σ Q := by
  refine W_callP (d := d_part_count) rfl rfl ?_
  dsimp [d_part_count]
  simpa [B.a_info hk, cntOf] using q
theorem p_tie (B : Buf σ L rs ll) {k : Nat} (hk : k < rs.length) {id ahead count : Int} (q : ∀ σ', Buf σ' L (rs.set k (tieR id ahead count (rg rs k))) ll → Q .none σ') : W (callN D (n + 1) .tie [.ref (L + 1 + k), .int id, .int ahead, .int count]) σ Q := by
  refine W_callP (d := d_tie) rfl rfl ?_
  dsimp [d_tie]
  have fin : ∀ x : Int, (if count < x then count else x) = partB (rg rs k) count → W (execL (callN D n) [.setAttr (.var 0) .lig_id (.var 1), .setAttr (.var 0) .lig_part (.bin .add (.var 2) (.callB .min [.var 4, .var 3])), .setAttr (.var 0) .lig_count (.int 0)] [some (.ref (L + 1 + k)), some (.int id), some (.int ahead), some (.int count), some (.int x)]) σ (End Q) := fun x hx => by
    simp
    refine W_setB B hk fP5 fun σ₁ B₁ => ?_
    dsimp
    refine W_setK hk B₁ fP6 fun σ₂ B₂ => ?_
    dsimp
    refine W_setK hk B₂ fP7 fun σ₃ B₃ => ?_
    refine q σ₃ ?_
    rw [tieR, ← hx]
    exact B₃
  by_cases h : 0 < (rg rs k).part
  · simp [B.a_info hk, h]
    simpa using fin _ (by simp [partB, h])
  · simp [B.a_info hk, h]
    simpa using fin count (by simp [partB, h])
end
end Mine.B
namespace Mine.B
set_option autoImplicit false
set_option linter.unusedVariables false
set_option linter.unusedSimpArgs false
set_option maxRecDepth 100000
set_option Elab.async false
set_option backward.defeqAttrib.useBackward true

noncomputable def behindR (old id a c : Int) : Nat → Nat → List Rec → List Rec
  | 0, _, rs => rs
  | f + 1, s, rs => if decide (0 < old) && decide ((rg rs s).id = old) && decide (0 < (rg rs s).part) then behindR old id a c f (s + 1) (rs.set s (tieR id a c (rg rs s))) else rs
theorem behindR_len {old id a c : Int} : ∀ {f s : Nat} {rs : List Rec}, (behindR old id a c f s rs).length = rs.length
  | 0, _, _ => rfl
  | f + 1, s, rs => by
    rw [behindR]
    split
    · rw [behindR_len, List.length_set]
    · rfl

section
variable {n : Nat} {σ : St} {Q : PV → St → Prop} {L : Nat} {rs : List Rec} {ll : Int} {p : Bool}
theorem p_tie_behind (B : Buf σ L rs ll) (hn : rs.length < 150) {s₀ : Nat} (hs : s₀ ≤ rs.length) {old id a c : Int} (q : ∀ σ', Buf σ' L (behindR old id a c (rs.length - s₀) s₀ rs) ll → Q .none σ') :
    W (callN D (n + 2) .tie_behind [.ref L, .int s₀, .int old, .int id, .int a, .int c]) σ Q := by
  have hL : rs.length < LIM := lim_small (by with_reducible exact O.a13 (by assumption))
  refine W_callP (d := d_tie_behind) rfl rfl ?_
  dsimp [d_tie_behind]
  obtain ⟨I, hI⟩ : ∃ I : Nat → Env → St → Prop, ∀ m ρ σ', I m ρ σ' ↔ ∃ (rs' : List Rec) (s : Nat), Buf σ' L rs' ll ∧ rs'.length = rs.length ∧ s ≤ rs.length ∧ m = rs.length - s ∧ ρ = [some (.ref L), some (.int s₀), some (.int old), some (.int id), some (.int a), some (.int c), some (.int s)] ∧
    behindR old id a c (rs.length - s₀) s₀ rs = behindR old id a c m s rs' := ⟨_, fun _ _ _ => Iff.rfl⟩
  refine W_while I (fun m ρ σ' hi => ?_) (rs.length - s₀) _ _ (by unfold WH; with_reducible exact O.a6 (by assumption)) ((hI _ _ _).mpr ⟨rs, s₀, B, rfl, hs, rfl, rfl, rfl⟩)
  obtain ⟨rs', s, B', e1, h1, rfl, rfl, h3⟩ := (hI _ _ _).mp hi
  have stop : behindR old id a c (rs.length - s) s rs' = rs' → Q .none σ' := fun e => q σ' (by rw [h3, e]; exact B')
  by_cases ho : 0 < old
  · by_cases hlt : s < rs.length
    · have hlt' : s < rs'.length := by with_reducible exact O.a9 (by assumption) (by assumption)
      have hL' : rs'.length < LIM := by with_reducible exact O.a9r (by assumption) (by assumption)
      obtain ⟨f, hf⟩ : ∃ f, rs.length - s = f + 1 := ⟨rs.length - s - 1, by with_reducible exact O.a1 (by assumption)⟩
      rw [hf, behindR] at stop
      rw [hf, behindR] at h3
      simp [ho, B'.a_len, e1, hlt, B'.a_sub hlt' hL', B'.a_info hlt']
      by_cases h4 : (rg rs' s).id = old
      · simp [h4, B'.a_sub hlt' hL', B'.a_info hlt']
        by_cases h5 : 0 < (rg rs' s).part
        · simp [h5, B'.a_sub hlt' hL', B'.a_info hlt']
          refine ⟨by with_reducible exact O.a5 (by assumption), p_tie B' hlt' fun σ₂ B₂ => ?_⟩
          refine (hI _ _ _).mpr ⟨_, s + 1, B₂, by simpa using e1, hlt, by with_reducible exact O.a4, rfl, ?_⟩
          rw [h3, if_pos (by simp [ho, h4, h5])]
          congr 1
          with_reducible exact O.a2 (by assumption)
        · simpa [h5] using stop (by rw [if_neg (by simp [h5])])
      · simpa [h4] using stop (by rw [if_neg (by simp [h4])])
    · have e2 : s = rs.length := by with_reducible exact O.a7 (by assumption) (by assumption)
      subst e2
      simpa [ho, B'.a_len, e1] using stop (by rw [Nat.sub_self]; rfl)
  · have e : behindR old id a c (rs.length - s) s rs' = rs' := by
      cases rs.length - s with
      | zero => rfl
      | succ f => rw [behindR, if_neg (by simp [ho])]
    simpa [ho] using stop e

theorem p_set_cluster (B : Buf σ L rs ll) {k : Nat} (hk : k < rs.length) {x : Int} (q : ∀ σ', Buf σ' L (rs.set k (setC x (rg rs k))) ll → Q .none σ') : W (callN D (n + 1) .set_cluster [.ref (L + 1 + k), .int x]) σ Q := by
  refine W_callP (d := d_set_cluster) rfl rfl ?_
  dsimp [d_set_cluster]
  by_cases h : (rg rs k).c = x
  · have e : rs.set k (setC x (rg rs k)) = rs := by rw [setC, if_pos h, set_rg hk]
    simpa [B.a_info hk, h] using q σ (by rw [e]; exact B)
  · simp [B.a_info hk, h]
    refine W_setB B hk fP2 fun σ₁ B₁ => ?_
    dsimp
    refine W_setK hk B₁ fP8 fun σ₂ B₂ => ?_
    refine q σ₂ ?_
    rw [setC, if_neg h]
    exact B₂
theorem p_next_lig (B : Buf σ L rs ll) (q : ∀ σ', Buf σ' L rs (ll + 1) → Q (.int (ll + 1)) σ') : W (callN D (n + 1) .next_lig [.ref (L + 1 + rs.length)]) σ Q := by
  refine W_callP (d := d_next_lig) rfl rfl ?_
  dsimp [d_next_lig]
  rw [W_attr B.buf]
  simp
  rw [W_setAttr B.buf]
  simp
  have B' := B.lig (ll + 1)
  rw [W_attr B'.buf]
  simpa using q _ B'
end
end Mine.B
namespace Mine.B
set_option autoImplicit false
set_option linter.unusedVariables false
set_option linter.unusedSimpArgs false
set_option maxRecDepth 100000
set_option Elab.async false
set_option backward.defeqAttrib.useBackward true

theorem fits_small {k : Int} (h : -1000 < k) (h2 : k < 1000) : fits k = true := by
  rw [fits_of]; with_reducible exact O.a15 (by assumption) (by assumption)
theorem bi_range {a b : Int} (h1 : fits a = true) (h2 : fits b = true) : builtinM .range [.int a, .int b] = M.pure (.range a b) := by
  show M.ofOpt (onTrue (fits a && fits b) (some (PV.range a b))) = _
  rw [h1, h2]
  rfl
theorem bi_range1 {b : Int} (h2 : fits b = true) : builtinM .range [.int b] = M.pure (.range 0 b) := by
  show M.ofOpt (onTrue (fits b) (some (PV.range 0 b))) = _
  rw [h2]
  rfl
theorem rangeL_at {a b : Int} {i : Nat} {t : PV} (h : (rangeL a b)[i]? = some t) : t = .int (a + i) ∧ (i : Int) < b - a := by
  unfold rangeL at h
  rw [List.getElem?_map] at h
  cases hx : (List.range (b - a).toNat)[i]? with
  | none => rw [hx] at h; cases h
  | some x =>
    rw [hx] at h
    obtain ⟨h1, h2⟩ := List.getElem?_eq_some_iff.mp hx
    rw [List.getElem_range] at h2
    subst h2
    cases h
    rw [List.length_range] at h1
    exact ⟨rfl, by omega⟩
@[simp] theorem rangeL_length {a b : Int} : (rangeL a b).length = (b - a).toNat := by simp [rangeL]

noncomputable def tieAll (wh : Bool) (id : Int) : List Nat → Nat → Int → Int → Int → List Rec → List Rec × Int × Int × Int
  | [], _, a, c, o, rs => (rs, a, c, o)
  | j :: l, prev, a, c, o, rs =>
    let rs' := if wh then updR (tieR id a c) (j - (prev + 1)) (prev + 1) rs else rs
    tieAll wh id l j (a + c) (cntOf (rg rs' j)) (rg rs' j).id rs'
theorem tieAll_len {wh : Bool} {id : Int} : ∀ {l : List Nat} {prev : Nat} {a c o : Int} {rs : List Rec}, (tieAll wh id l prev a c o rs).1.length = rs.length
  | [], _, _, _, _, _ => rfl
  | j :: l, prev, a, c, o, rs => by
    simp only [tieAll]
    rw [tieAll_len]
    split
    · exact updR_len
    · rfl
noncomputable def lastOf (k : Nat) (l : List Nat) : Nat := (k :: l).getLast (by simp)
noncomputable def tieAllR (w : SK) (id : Int) (k : Nat) (l : List Nat) (rs : List Rec) : List Rec × Int :=
  let t := tieAll (w == .ligature) id l k 0 (cntOf (rg rs k)) (rg rs k).id rs
  (if w == .mark then t.1 else behindR t.2.2.2 id t.2.1 t.2.2.1 (rs.length - (lastOf k l + 1)) (lastOf k l + 1) t.1, t.2.1 + t.2.2.1)

section
variable {n : Nat} {σ : St} {Q : PV → St → Prop} {L : Nat} {rs : List Rec} {ll : Int} {p : Bool}
theorem p_tie_range {C : Fn → List PV → M PV} (hC : C = callN D (n + 1)) (B : Buf σ L rs ll) (hn : rs.length < 150) {s e : Nat} (he : e ≤ rs.length) {id a c : Int} {v1 v2 v4 v7 v8 v9 : Option PV}
    {QS : Fl × Env → St → Prop} (q : ∀ σ' v9, Buf σ' L (updR (tieR id a c) (e - s) s rs) ll → QS (.next, [some (.ref L), v1, v2, some (.int id), v4, some (.int a), some (.int c), v7, v8, v9]) σ') :
    W (forL (fun v ρ' => execL C [(.expr (.callF .tie [(.sub (.var 0) (.var 9)), (.var 3), (.var 5), (.var 6)]))] (ρ'.put 9 v)) (rangeL s e) [some (.ref L), v1, v2, some (.int id), v4, some (.int a), some (.int c), v7, v8, v9]) σ QS := by
  subst hC
  have hL : rs.length < LIM := lim_small (by with_reducible exact O.a13 (by assumption))
  obtain ⟨I, hI⟩ : ∃ I : Nat → Env → St → Prop, ∀ i ρ σ', I i ρ σ' ↔ ∃ (rs' : List Rec) (v9 : Option PV), Buf σ' L rs' ll ∧ rs'.length = rs.length ∧ ρ = [some (.ref L), v1, v2, some (.int id), v4, some (.int a), some (.int c), v7, v8, v9] ∧
      updR (tieR id a c) (e - s) s rs = updR (tieR id a c) (e - s - i) (s + i) rs' := ⟨_, fun _ _ _ => Iff.rfl⟩
  refine W_forL I _ 0 _ _ (fun i ρ σ' t ht hi => ?_) (fun ρ σ' hi => ?_) ((hI _ _ _).mpr ⟨rs, v9, B, rfl, rfl, rfl⟩)
  · rw [Nat.zero_add] at hi ⊢
    obtain ⟨rs', v9, B', e1, rfl, a6⟩ := (hI _ _ _).mp hi
    obtain ⟨rfl, hlt⟩ := rangeL_at ht
    have hj : s + i < rs'.length := by omega
    have hL' : rs'.length < LIM := by with_reducible exact O.a9r (by assumption) (by assumption)
    have ec : (s : Int) + (i : Int) = ((s + i : Nat) : Int) := by with_reducible exact O.a12f
    simp only [ec]
    simp [B'.a_sub hj hL']
    rw [← Int.natCast_add, B'.a_sub hj hL']
    refine p_tie B' hj fun σ₂ B₂ => ?_
    refine (hI _ _ _).mpr ⟨_, _, B₂, by simpa using e1, rfl, ?_⟩
    rw [a6]
    obtain ⟨f, hf⟩ : ∃ f, e - s - i = f + 1 := ⟨e - s - i - 1, by with_reducible exact O.a1c (by assumption)⟩
    rw [hf, updR]
    congr 1
    with_reducible exact O.a3 (by assumption)
  · rw [Nat.zero_add, rangeL_length] at hi
    obtain ⟨rs', v9, B', e1, rfl, a6⟩ := (hI _ _ _).mp hi
    refine q σ' v9 ?_
    rw [a6, show e - s - ((e : Int) - (s : Int)).toNat = 0 by with_reducible exact O.a21a]
    exact B'

theorem pl_sub {l : List Nat} {i j : Nat} (h : l[i]? = some j) (hl : l.length < LIM) : subV (.lst (plV l)) (.int i) = M.pure (.int j) := sub_lst (pl_get h) (by simpa using hl)
theorem pl_sub0 {k : Nat} {l : List Nat} (hl : l.length + 1 < LIM) : subV (.lst (plV (k :: l))) (.int 0) = M.pure (.int k) := pl_sub (i := 0) rfl (by simpa using hl)
theorem last_get {k : Nat} {l : List Nat} : (k :: l)[l.length]? = some (lastOf k l) := by
  unfold lastOf
  rw [List.getLast_eq_getElem]
  simp
theorem pl_subl {k : Nat} {l : List Nat} (hl : l.length + 1 < LIM) : subV (.lst (plV (k :: l))) (.int (-1)) = M.pure (.int (lastOf k l)) :=
  sub_last (by simp) (by rw [pl_len]; exact pl_get last_get) (by simpa using hl)
theorem last_lt {k m : Nat} {l : List Nat} (h : ∀ j ∈ k :: l, j < m) : lastOf k l < m := h _ (List.getLast_mem _)

theorem p_tie_all (B : Buf σ L rs ll) (hn : rs.length < 150) {k : Nat} {l : List Nat} (hl : ∀ j ∈ k :: l, j < rs.length) (hll : l.length < 150) {w : SK} {id : Int}
    (q : ∀ σ', Buf σ' L (tieAllR w id k l rs).1 ll → Q (.int (tieAllR w id k l rs).2) σ') :
    W (callN D (n + 3) .tie_all [.ref L, .lst (plV (k :: l)), .str w, .int id]) σ Q := by
  have hL : rs.length < LIM := lim_small (by with_reducible exact O.a13 (by assumption))
  have hl1 : l.length + 1 < LIM := lim_small (by with_reducible exact O.a13a (by assumption))
  have hk : k < rs.length := hl k (.head _)
  refine W_callP (d := d_tie_all) rfl rfl ?_
  dsimp [d_tie_all]
  have hr : builtinM .range [.int 1, .int (((plV (k :: l)).length : Nat) : Int)] = M.pure (.range 1 ((plV (k :: l)).length : Nat)) := bi_range (fits_small (by omega) (by omega)) (fits_small (by with_reducible exact O.a14c) (by simp; omega))
  simp [pl_sub0 hl1, B.a_sub hk hL]
  refine p_part_count B hk ?_
  simp [B.a_info hk]
  rw [show ((l.length : Int) + 1) = (((plV (k :: l)).length : Nat) : Int) by simp, hr]
  simp
  obtain ⟨I, hI⟩ : ∃ I : Nat → Env → St → Prop, ∀ i ρ σ', I i ρ σ' ↔ ∃ (rs' : List Rec) (prev : Nat) (a c o : Int) (v4 v8 v9 : Option PV), Buf σ' L rs' ll ∧ rs'.length = rs.length ∧ (k :: l)[i]? = some prev ∧
      ρ = [some (.ref L), some (.lst (plV (k :: l))), some (.str w), some (.int id), v4, some (.int a), some (.int c), some (.int o), v8, v9] ∧
      tieAll (w == .ligature) id l k 0 (cntOf (rg rs k)) (rg rs k).id rs = tieAll (w == .ligature) id (l.drop i) prev a c o rs' := ⟨_, fun _ _ _ => Iff.rfl⟩
  refine W_forL I _ 0 _ _ (fun i ρ σ' t ht hi => ?_) (fun ρ σ' hi => ?_) ((hI _ _ _).mpr ⟨rs, k, 0, _, _, _, none, none, B, rfl, rfl, rfl, rfl⟩)
  · rw [Nat.zero_add] at hi ⊢
    obtain ⟨rs', prev, a, c, o, v4, v8, v9, B', e1, hp, rfl, a6⟩ := (hI _ _ _).mp hi
    obtain ⟨rfl, hlt⟩ := rangeL_at ht
    have hil : i < l.length := by simp at hlt; omega
    obtain ⟨j, hj⟩ : ∃ j, l[i]? = some j := ⟨l[i], List.getElem?_eq_getElem hil⟩
    have hj1 : (k :: l)[1 + i]? = some j := by rw [Nat.add_comm]; simpa using hj
    have hjr : j < rs.length := hl j (.tail _ (List.mem_of_getElem? hj))
    have hpr : prev < rs.length := hl prev (List.mem_of_getElem? hp)
    have hlk : (k :: l).length < LIM := by simpa using hl1
    rw [drop_at hj, tieAll] at a6
    have ei : (1 : Int) + (i : Int) = ((1 + i : Nat) : Int) := by with_reducible exact O.a12d
    have ei2 : ((1 + i : Nat) : Int) - 1 = (i : Int) := by with_reducible exact O.a12e
    have tail : ∀ (rs'' : List Rec) (σ'' : St) (v9 : Option PV), Buf σ'' L rs'' ll → rs''.length = rs.length → tieAll (w == .ligature) id l k 0 (cntOf (rg rs k)) (rg rs k).id rs = tieAll (w == .ligature) id (l.drop (i + 1)) j (a + c) (cntOf (rg rs'' j)) (rg rs'' j).id rs'' →
        W (execL (callN D (n + 2)) [(.assign 4 (.sub (.var 0) (.sub (.var 1) (.var 8)))), (.assignT [5, 6, 7] (.tup [(.bin .add (.var 5) (.var 6)), (.callF .part_count [(.var 4)]), (.attr (.var 4) .lig_id)]))]
          [some (.ref L), some (.lst (plV (k :: l))), some (.str w), some (.int id), v4, some (.int a), some (.int c), some (.int o), some (.int ((1 + i : Nat) : Int)), v9]) σ'' (Turn (I (i + 1)) (After (callN D (n + 2)) [.ifs (.cmp .ne (.var 2) (.str .mark)) [(.expr (.callF .tie_behind [(.var 0), (.bin .add (.sub (.var 1) (.neg 1)) (.int 1)), (.var 7), (.var 3), (.var 5), (.var 6)]))] [],
    (.ret (.bin .add (.var 5) (.var 6)))] (End Q))) := fun rs'' σ'' v9 B'' e2 a7 => by
      have hjr' : j < rs''.length := by with_reducible exact O.a9 (by assumption) (by assumption)
      have hL'' : rs''.length < LIM := by with_reducible exact O.a9r (by assumption) (by assumption)
      have es := pl_sub hj1 hlk
      skip
      simp [-Int.natCast_add, es, B''.a_sub hjr' hL'']
      refine p_part_count B'' hjr' ?_
      simp [B''.a_info hjr']
      exact (hI _ _ _).mpr ⟨rs'', j, _, _, _, _, _, _, B'', e2, by simpa using hj, rfl, a7⟩
    rw [ei]
    simp only [W_cons, wS_ifs]
    by_cases hw : w = .ligature
    · have hwb : (w == SK.ligature) = true := by rw [hw]; rfl
      rw [hwb, if_pos rfl] at a6
      have hsub1 := pl_sub hp hlk
      have hsub2 := pl_sub hj1 hlk
      simp [-Int.natCast_add, hwb, ei2, hsub1, hsub2]
      rw [show ((prev : Int) + 1) = ((prev + 1 : Nat) : Int) by with_reducible exact O.a12, bi_range (fits_small (by with_reducible exact O.a14c) (by with_reducible exact O.a14a (by assumption) (by assumption))) (fits_small (by with_reducible exact O.a14c) (by with_reducible exact O.a14 (by assumption) (by assumption)))]
      simp [-Int.natCast_add]
      refine p_tie_range (n := n + 1) (C := callN D (n + 2)) rfl B' (by with_reducible exact O.a13r (by assumption) (by assumption) (by assumption)) (by with_reducible exact O.a9u (by assumption) (by assumption)) fun σ'' v9 B'' => ?_
      rw [After_next, W_nil, After_next]
      with_reducible exact @tail _ _ v9 B'' (by rw [updR_len]; exact e1) (by rw [hwb]; exact a6)
    · have hwb : (w == SK.ligature) = false := by simpa using hw
      rw [hwb, if_neg (by simp)] at a6
      simp only [wE_cmp, wE_var, wE_str, W_some, cv_eqs, hwb, tr_bool, WT_false, kCmp1_ap, kCmp2_ap, kBool_ap, kIf_ap, W_nil, After_next, ep_8, ep_7, ep_6, ep_5, ep_4, ep_3, ep_2, ep_1, ep_0, eg_2, eg_1, eg_0]
      with_reducible exact @tail rs' σ' v9 B' e1 (by rw [hwb]; exact a6)
  · rw [Nat.zero_add, rangeL_length] at hi
    obtain ⟨rs', prev, a, c, o, v4, v8, v9, B', e1, hp, rfl, a6⟩ := (hI _ _ _).mp hi
    have e5 : (((l.length : Nat) : Int) + 1 - 1).toNat = l.length := by with_reducible exact O.a21d
    rw [e5] at a6 hp
    rw [List.drop_of_length_le (Nat.le_refl _), tieAll] at a6
    have hlr := last_lt hl
    simp only [tieAllR, a6] at q
    by_cases hw : w = .mark
    · have hwb : (w == SK.mark) = true := by rw [hw]; rfl
      rw [hwb, if_pos rfl] at q
      simp [hwb]
      exact q σ' B'
    · have hwb : (w == SK.mark) = false := by simpa using hw
      rw [hwb, if_neg (by simp)] at q
      simp [hwb, pl_subl hl1]
      rw [show ((lastOf k l : Int) + 1) = ((lastOf k l + 1 : Nat) : Int) by with_reducible exact O.a12]
      refine p_tie_behind B' (by with_reducible exact O.a9r (by assumption) (by assumption)) (by with_reducible exact O.a9t (by assumption) (by assumption)) fun σ'' B'' => ?_
      rw [e1] at B''
      simpa using q σ'' B''
end
end Mine.B
namespace Mine.B
set_option autoImplicit false
set_option linter.unusedVariables false
set_option linter.unusedSimpArgs false
set_option maxRecDepth 100000
set_option Elab.async false
set_option backward.defeqAttrib.useBackward true

noncomputable def wUp (x : Int) (rs : List Rec) : Nat → Nat → Nat
  | 0, e => e
  | f + 1, e => if (rg rs e).c = x then wUp x rs f (e + 1) else e
noncomputable def wDn (x : Int) (rs : List Rec) : Nat → Nat
  | 0 => 0
  | b + 1 => if (rg rs b).c = x then wDn x rs b else b + 1
theorem wUp_le {x : Int} {rs : List Rec} : ∀ {f e : Nat}, e ≤ wUp x rs f e ∧ wUp x rs f e ≤ e + f
  | 0, e => ⟨Nat.le_refl _, Nat.le_refl _⟩
  | f + 1, e => by
    rw [wUp]
    split
    · have := wUp_le (x := x) (rs := rs) (f := f) (e := e + 1); with_reducible exact O.a25e (by assumption)
    · omega
theorem wDn_le {x : Int} {rs : List Rec} : ∀ {b : Nat}, wDn x rs b ≤ b
  | 0 => Nat.le_refl _
  | b + 1 => by
    rw [wDn]
    split
    · have := wDn_le (x := x) (rs := rs) (b := b); with_reducible exact O.a34 (by assumption)
    · omega
noncomputable def leastC (b e : Nat) (rs : List Rec) : Int := (minL (((rs.map (·.c)).take e).drop b)).getD 0
noncomputable def mergeR (k e : Nat) (rs : List Rec) : List Rec :=
  updR (setC (leastC k e rs)) (wUp (rg rs (e - 1)).c rs (rs.length - e) e - wDn (rg rs k).c rs k) (wDn (rg rs k).c rs k) rs

theorem clamp_nat {n k : Nat} (h : k ≤ n) : clampB n (k : Int) = k := by
  unfold clampB
  rw [if_neg (Int.not_lt.mpr (Int.natCast_nonneg k))]
  exact Nat.min_eq_left h
theorem fits_nat {n k : Nat} (h : k ≤ n) (hn : n < LIM) : fits (k : Int) = true := by
  have hl : LIM = 100000 := rfl
  rw [fits_of]; omega
theorem boundL_nat {n k : Nat} (h : k ≤ n) (hn : n < LIM) : boundL n (.int k) = some k := by
  simp only [boundL]
  rw [fits_nat h hn, if_pos rfl, clamp_nat h]
theorem boundH_nat {n k : Nat} (h : k ≤ n) (hn : n < LIM) : boundH n (.int k) = some k := by
  simp only [boundH]
  rw [fits_nat h hn, if_pos rfl, clamp_nat h]
theorem sliceL_of {vs : List PV} {a b : Nat} {x y : PV} (ha : boundL vs.length x = some a) (hb : boundH vs.length y = some b) : sliceL vs x y = some ((vs.take b).drop a) := by
  unfold sliceL
  rw [ha, hb]
  rfl
theorem sliceL_nat {vs : List PV} {a b : Nat} (ha : a ≤ vs.length) (hb : b ≤ vs.length) (hn : vs.length < LIM) : sliceL vs (.int a) (.int b) = some ((vs.take b).drop a) := sliceL_of (boundL_nat ha hn) (boundH_nat hb hn)
theorem W_slice_ref {σ : St} {L a b : Nat} {vs : List PV} {Q : PV → St → Prop} (h : σ[L]? = some (some (.list vs))) (ha : a ≤ vs.length) (hb : b ≤ vs.length) (hn : vs.length < LIM) : W (sliceV (.ref L) (.int a) (.int b)) σ Q ↔ Q (.lst ((vs.take b).drop a)) σ := by
  refine (W_get (Q := fun o σ => W (M.onList o fun vs => M.ofOpt ((sliceL vs (.int a) (.int b)).map PV.lst)) σ Q) h).trans ?_
  show W (M.ofOpt ((sliceL vs (.int a) (.int b)).map PV.lst)) σ Q ↔ _
  rw [sliceL_nat ha hb hn]
  exact Iff.rfl
theorem slice_lst {a b : Nat} {vs : List PV} (ha : a ≤ vs.length) (hb : b ≤ vs.length) (hn : vs.length < LIM) : sliceV (.lst vs) (.int a) (.int b) = M.pure (.lst ((vs.take b).drop a)) := by
  show M.ofOpt ((sliceL vs (.int a) (.int b)).map PV.lst) = _
  rw [sliceL_nat ha hb hn]
  rfl
theorem intsOf_map {α : Type} (f : α → Int) : ∀ (xs : List α), intsOf (xs.map fun x => .int (f x)) = some (xs.map f)
  | [] => rfl
  | x :: r => by simp [intsOf, intsOf_map f r]
theorem bi_minL {xs : List Int} (h : xs ≠ []) {vs : List PV} (hv : vs = xs.map .int) : builtinM .min [.lst vs] = M.pure (.int ((minL xs).getD 0)) := by
  subst hv
  have e : intsOf (xs.map .int) = some xs := by simpa using intsOf_map (fun x => x) xs
  have : builtinM .min [.lst (xs.map .int)] = M.ofOpt (do let ns ← intsOf (xs.map .int); let m ← minL ns; some (.int m)) := rfl
  rw [this, e]
  cases xs with
  | nil => exact (h rfl).elim
  | cons a r => rfl
theorem cv_ne_nil {vs : List PV} (h : vs.all (flatN 5) = true) : cmpV .ne (.lst vs) (.lst []) = some (!vs.isEmpty) := by
  have e1 : flatN 6 (.lst vs) = true := h
  have e2 : flatN 6 (.lst []) = true := rfl
  show (eqG (.lst vs) (.lst [])).map (!·) = _
  have : eqG (.lst vs) (.lst []) = onTrue (flatN 6 (.lst vs) && flatN 6 (.lst [])) (pvEq (.lst vs) (.lst [])) := rfl
  rw [this, e1, e2]
  cases vs <;> rfl

section
variable {n : Nat} {σ : St} {Q : PV → St → Prop} {L : Nat} {rs : List Rec} {ll : Int} {p : Bool}
theorem refs_map {f : Rec → PV} {g : PV → PV} (h : ∀ j, j < rs.length → g (.ref (L + 1 + j)) = f (rg rs j)) : (refs L rs.length).map g = rs.map f := by
  apply List.ext_getElem?
  intro i
  rw [List.getElem?_map, List.getElem?_map]
  by_cases hi : i < rs.length
  · rw [refs_get hi, rg_get hi, Option.map_some, Option.map_some, h i hi]
  · rw [List.getElem?_eq_none (by simpa using hi), List.getElem?_eq_none (by simpa using hi)]; rfl
theorem mem_refs {t : PV} {n : Nat} (h : t ∈ refs L n) : ∃ j, j < n ∧ t = .ref (L + 1 + j) := by
  unfold refs at h
  obtain ⟨j, h1, rfl⟩ := List.mem_map.mp h
  exact ⟨j, List.mem_range.mp h1, rfl⟩

theorem p_widened (B : Buf σ L rs ll) (hn : rs.length < 150) {b e : Nat} (hb : b < rs.length) (he : e ≤ rs.length) (h0 : 0 < e)
    (q : Q (.tup [.int (wDn (rg rs b).c rs b), .int (wUp (rg rs (e - 1)).c rs (rs.length - e) e)]) σ) : W (callN D (n + 1) .widened [.ref L, .int b, .int e]) σ Q := by
  have hL : rs.length < LIM := lim_small (by with_reducible exact O.a13 (by assumption))
  refine W_callP (d := d_widened) rfl rfl ?_
  dsimp [d_widened]
  obtain ⟨I, hI⟩ : ∃ I : Nat → Env → St → Prop, ∀ m ρ σ', I m ρ σ' ↔ σ' = σ ∧ ∃ (h : Nat), e ≤ h ∧ h ≤ rs.length ∧ m = rs.length - h ∧ ρ = [some (.ref L), some (.int b), some (.int e), some (.int b), some (.int h)] ∧
    (rg rs (h - 1)).c = (rg rs (e - 1)).c ∧ wUp (rg rs (e - 1)).c rs (rs.length - e) e = wUp (rg rs (e - 1)).c rs m h := ⟨_, fun _ _ _ => Iff.rfl⟩
  refine W_while I (fun m ρ σ' hi => ?_) (rs.length - e) _ _ (by unfold WH; with_reducible exact O.a6 (by assumption)) ((hI _ _ _).mpr ⟨rfl, e, Nat.le_refl _, he, rfl, rfl, rfl, rfl⟩)
  obtain ⟨rfl, h, h1, h2, rfl, rfl, h3, h4⟩ := (hI _ _ _).mp hi
  -- the second loop
  have second : wUp (rg rs (e - 1)).c rs (rs.length - e) e = h → W (execL (callN D n) [(.whiles (.band [(.cmp .gt (.var 3) (.int 0)), (.cmp .eq (.attr (.sub (.var 0) (.bin .sub (.var 3) (.int 1))) .cluster) (.attr (.sub (.var 0) (.var 3)) .cluster))]) [(.assign 3 (.bin .sub (.var 3) (.int 1)))]),
      (.ret (.tup [(.var 3), (.var 4)]))] [some (.ref L), some (.int b), some (.int e), some (.int b), some (.int h)]) σ' (End Q) := fun eu => by
    rw [eu] at q
    simp
    obtain ⟨J, hJ⟩ : ∃ J : Nat → Env → St → Prop, ∀ m ρ σ'', J m ρ σ'' ↔ σ'' = σ' ∧ m ≤ b ∧ ρ = [some (.ref L), some (.int b), some (.int e), some (.int m), some (.int h)] ∧
      (rg rs m).c = (rg rs b).c ∧ wDn (rg rs b).c rs b = wDn (rg rs b).c rs m := ⟨_, fun _ _ _ => Iff.rfl⟩
    refine W_while J (fun m ρ σ'' hi => ?_) b _ _ (by unfold WH; with_reducible exact O.a13p (by assumption) (by assumption)) ((hJ _ _ _).mpr ⟨rfl, Nat.le_refl _, rfl, rfl, rfl⟩)
    obtain ⟨rfl, g1, rfl, g2, g3⟩ := (hJ _ _ _).mp hi
    cases m with
    | zero =>
      rw [g3] at q
      simpa [wDn] using q
    | succ m =>
      have hm : m < rs.length := by omega
      have hm1 : m + 1 < rs.length := by with_reducible exact O.a34j (by assumption) (by assumption)
      rw [wDn] at g3
      have ep : ((m + 1 : Nat) : Int) - 1 = (m : Int) := by with_reducible exact O.a12a
      have egt : (0 : Int) < ((m + 1 : Nat) : Int) := by with_reducible exact O.a14e
      simp [-Int.natCast_add, ep, B.a_sub hm hL, B.a_sub hm1 hL, B.a_info hm, B.a_info hm1, g2, egt]
      by_cases hc : (rg rs m).c = (rg rs b).c
      · rw [if_pos hc] at g3
        simp [-Int.natCast_add, hc, ep]
        exact (hJ _ _ _).mpr ⟨rfl, by with_reducible exact O.a34a (by assumption), rfl, hc, g3⟩
      · rw [if_neg hc] at g3
        rw [g3] at q
        simpa [-Int.natCast_add, hc] using q
  by_cases hlt : h < rs.length
  · have hh : h - 1 < rs.length := by omega
    have ep : (h : Int) - 1 = ((h - 1 : Nat) : Int) := by with_reducible exact O.a12c (by assumption) (by assumption)
    obtain ⟨f, hf⟩ : ∃ f, rs.length - h = f + 1 := ⟨rs.length - h - 1, by with_reducible exact O.a1 (by assumption)⟩
    rw [hf, wUp] at h4
    simp [B.a_len, hlt, ep, B.a_sub hlt hL, B.a_sub hh hL, B.a_info hlt, B.a_info hh, h3]
    by_cases hc : (rg rs h).c = (rg rs (e - 1)).c
    · rw [if_pos hc] at h4
      simp [hc]
      refine ⟨by with_reducible exact O.a5 (by assumption), (hI _ _ _).mpr ⟨rfl, h + 1, by with_reducible exact O.a34 (by assumption), by with_reducible exact O.a8 (by assumption), by with_reducible exact O.a4, rfl, ?_, ?_⟩⟩
      · rw [Nat.add_sub_cancel]; exact hc
      · rw [h4]; congr 1; with_reducible exact O.a2 (by assumption)
    · rw [if_neg hc] at h4
      simpa [hc] using second h4
  · have e1 : h = rs.length := by with_reducible exact O.a7 (by assumption) (by assumption)
    subst e1
    simpa [B.a_len] using second (by rw [h4, Nat.sub_self]; rfl)

theorem p_merge (B : Buf σ L rs ll) (hn : rs.length < 150) {k e : Nat} (hk : k + 1 < e) (he : e ≤ rs.length) (q : ∀ σ', Buf σ' L (mergeR k e rs) ll → Q .none σ') :
    W (callN D (n + 2) .merge [.ref (L + 1 + rs.length), .int k, .int e]) σ Q := by
  have hL : rs.length < LIM := lim_small (by with_reducible exact O.a13 (by assumption))
  have hkr : k < rs.length := by omega
  refine W_callP (d := d_merge) rfl rfl ?_
  dsimp [d_merge]
  have e2 : ¬ ((e : Int) - (k : Int) < 2) := by omega
  simp [e2, B.a_row]
  rw [W_slice_ref B.row (by simp; with_reducible exact O.a34b (by assumption)) (by simpa using he) (by simpa using hL)]
  have hlim : ∀ a b : Nat, ((List.take b (refs L rs.length)).drop a).length < LIM := fun a b => by simp; with_reducible exact O.a16a (by assumption)
  simp [-List.length_drop, -List.length_take, hlim]
  refine W_mapL (g := fun t => match t with | .ref i => .int (rg rs (i - (L + 1))).c | _ => .none) (fun t ht => ?_) ?_
  · obtain ⟨j, hj, rfl⟩ := mem_refs (List.mem_of_mem_take (List.mem_of_mem_drop ht))
    refine W.eq ?_
    simp [B.a_info hj]
  have em : ((List.take e (refs L rs.length)).drop k).map (fun t => match t with | .ref i => PV.int (rg rs (i - (L + 1))).c | _ => .none) = (((rs.map (·.c)).take e).drop k).map .int := by
    rw [List.map_drop, List.map_take, refs_map (f := fun r => .int r.c) (fun j hj => by simp), List.map_drop, List.map_take, List.map_map]
    rfl
  have hne : ((rs.map (·.c)).take e).drop k ≠ [] := by
    intro h
    have := congrArg List.length h
    simp at this
    omega
  simp only [kLst_ap, kL1_ap, wL_nil, kL2_ap, kCallB_ap]
  rw [bi_minL hne em]
  simp [B.a_row]
  refine p_widened B hn hkr he (by with_reducible exact O.a34g (by assumption)) ?_
  have u1 := wUp_le (x := (rg rs (e - 1)).c) (rs := rs) (f := rs.length - e) (e := e)
  have d1 := wDn_le (x := (rg rs k).c) (rs := rs) (b := k)
  simp [B.a_row]
  have hq : ∀ σ', Buf σ' L (updR (setC (leastC k e rs)) (wUp (rg rs (e - 1)).c rs (rs.length - e) e - wDn (rg rs k).c rs k) (wDn (rg rs k).c rs k) rs) ll → Q .none σ' := q
  revert hq
  rw [show (minL (((rs.map (·.c)).take e).drop k)).getD 0 = leastC k e rs from rfl]
  generalize wUp (rg rs (e - 1)).c rs (rs.length - e) e = hv at *
  generalize wDn (rg rs k).c rs k = lo at *
  generalize leastC k e rs = least at *
  intro hq
  rw [W_slice_ref B.row (by simp; omega) (by simp; with_reducible exact O.a17 (by assumption) (by assumption)) (by simpa using hL)]
  simp
  obtain ⟨I, hI⟩ : ∃ I : Nat → Env → St → Prop, ∀ i ρ σ', I i ρ σ' ↔ ∃ (rs' : List Rec) (v6 : Option PV), Buf σ' L rs' ll ∧ rs'.length = rs.length ∧ ρ = [some (.ref (L + 1 + rs.length)), some (.int k), some (.int e), some (.int least), some (.int lo), some (.int hv), v6, none] ∧
      updR (setC least) (hv - lo) lo rs = updR (setC least) (hv - lo - i) (lo + i) rs' := ⟨_, fun _ _ _ => Iff.rfl⟩
  refine W_forL I _ 0 _ _ (fun i ρ σ' t ht hi => ?_) (fun ρ σ' hi => ?_) ((hI _ _ _).mpr ⟨rs, none, B, rfl, rfl, rfl⟩)
  · rw [Nat.zero_add] at hi ⊢
    obtain ⟨rs', v6, B', e1, rfl, a6⟩ := (hI _ _ _).mp hi
    have hlen := (List.getElem?_eq_some_iff.mp ht).1
    simp at hlen
    rw [List.getElem?_drop, List.getElem?_take, if_pos (by with_reducible exact O.a17c (by assumption)), refs_get (by omega)] at ht
    cases ht
    have hj : lo + i < rs'.length := by with_reducible exact O.a17b (by assumption) (by assumption)
    simp
    refine p_set_cluster B' hj fun σ₂ B₂ => ?_
    refine (hI _ _ _).mpr ⟨_, _, B₂, by simpa using e1, rfl, ?_⟩
    rw [a6]
    obtain ⟨f, hf⟩ : ∃ f, hv - lo - i = f + 1 := ⟨hv - lo - i - 1, by with_reducible exact O.a1m (by assumption)⟩
    rw [hf, updR]
    congr 1
    with_reducible exact O.a3 (by assumption)
  · rw [Nat.zero_add] at hi
    obtain ⟨rs', v6, B', e1, rfl, a6⟩ := (hI _ _ _).mp hi
    simp
    refine hq σ' ?_
    have : ((List.take hv (refs L rs.length)).drop lo).length = hv - lo := by simp; with_reducible exact O.a17a (by assumption) (by assumption)
    rw [a6, this, Nat.sub_self]
    exact B'
end
end Mine.B
namespace Mine.B
set_option autoImplicit false
set_option linter.unusedVariables false
set_option linter.unusedSimpArgs false
set_option maxRecDepth 100000
set_option Elab.async false
set_option backward.defeqAttrib.useBackward true

noncomputable def wayK (g : Int) (r : List Int) : SK := if r.all (fun x => decide (cls x = 3)) then (if cls g = 1 then .base else if cls g = 3 then .mark else .ligature) else .ligature

theorem W_mapL_pl {f : PV → M PV} {g : Nat → PV} {σ : St} {Q : List PV → St → Prop} {l : List Nat} (h : ∀ j ∈ l, W (f (.int j)) σ fun a σ' => a = g j ∧ σ' = σ) (q : Q (l.map g) σ) : W (mapL f (plV l)) σ Q := by
  refine W_mapL (g := fun t => match t with | .int x => g x.toNat | _ => .none) (fun t ht => ?_) ?_
  · obtain ⟨j, hj, rfl⟩ := List.mem_map.mp ht
    simpa using h j hj
  · have : (plV l).map (fun t => match t with | PV.int x => g x.toNat | _ => .none) = l.map g := by simp [plV, Function.comp_def]
    rw [this]; exact q
theorem W_mapIf_pl {c f : PV → M PV} {b : Nat → Bool} {g : Nat → PV} {σ : St} {Q : List PV → St → Prop} {l : List Nat} (h : ∀ j ∈ l, W (c (.int j)) σ fun a σ' => a = .bool (b j) ∧ σ' = σ) (h2 : ∀ j ∈ l, b j = true → W (f (.int j)) σ fun a σ' => a = g j ∧ σ' = σ) (q : Q ((l.filter b).map g) σ) : W (mapIf c f (plV l)) σ Q := by
  refine W_mapIf (b := fun t => match t with | .int x => b x.toNat | _ => false) (g := fun t => match t with | .int x => g x.toNat | _ => .none) (fun t ht => ?_) (fun t ht => ?_) ?_
  · obtain ⟨j, hj, rfl⟩ := List.mem_map.mp ht
    simpa using h j hj
  · obtain ⟨j, hj, rfl⟩ := List.mem_map.mp ht
    simpa using h2 j hj
  · have : ((plV l).filter (fun t => match t with | PV.int x => b x.toNat | _ => false)).map (fun t => match t with | PV.int x => g x.toNat | _ => .none) = (l.filter b).map g := by
      simp [plV, List.filter_map, Function.comp_def]
    rw [this]; exact q
noncomputable def seg (a b : Nat) : List Nat := (List.range b).drop a
theorem seg_get {a b i : Nat} : (seg a b)[i]? = if a + i < b then some (a + i) else none := by
  unfold seg
  rw [List.getElem?_drop]
  by_cases h : a + i < b
  · rw [if_pos h, List.getElem?_range h]
  · rw [if_neg h, List.getElem?_eq_none (by simpa using h)]
theorem mem_seg {a b j : Nat} : j ∈ seg a b ↔ a ≤ j ∧ j < b := by
  constructor
  · intro h
    obtain ⟨i, hi⟩ := List.mem_iff_getElem?.mp h
    rw [seg_get] at hi
    split at hi
    · cases hi; with_reducible exact O.a19g (by assumption)
    · cases hi
  · intro h
    refine List.mem_iff_getElem?.mpr ⟨j - a, ?_⟩
    rw [seg_get, if_pos (by with_reducible exact O.a19f (by assumption))]
    congr 1; with_reducible exact O.a19e (by assumption)
theorem seg_len {a b : Nat} : (seg a b).length = b - a := by simp [seg]
theorem seg_pl {a b : Nat} : rangeL a b = plV (seg a b) := by
  apply List.ext_getElem?
  intro i
  rw [plV, List.getElem?_map, seg_get]
  by_cases h : a + i < b
  · rw [if_pos h, rangeL, List.getElem?_map, List.getElem?_range (by omega)]
    simp
  · rw [if_neg h, List.getElem?_eq_none (by simp; omega)]
    rfl
theorem seg_split {a b c : Nat} (h1 : a ≤ b) (h2 : b ≤ c) : seg a c = seg a b ++ seg b c := by
  apply List.ext_getElem?
  intro i
  by_cases h : a + i < b
  · rw [List.getElem?_append_left (by rw [seg_len]; with_reducible exact O.a19d (by assumption) (by assumption)), seg_get, seg_get, if_pos (by with_reducible exact O.a34i (by assumption) (by assumption)), if_pos h]
  · rw [List.getElem?_append_right (by rw [seg_len]; omega), seg_get, seg_get, seg_len]
    by_cases h3 : a + i < c
    · rw [if_pos h3, if_pos (by with_reducible exact O.a19a (by assumption) (by assumption) (by assumption))]; congr 1; with_reducible exact O.a19b (by assumption) (by assumption)
    · rw [if_neg h3, if_neg (by with_reducible exact O.a19c (by assumption) (by assumption) (by assumption))]
theorem inV_pl {j : Nat} : ∀ {l : List Nat}, inV (.int j) (plV l) = some (decide (j ∈ l))
  | [] => rfl
  | x :: l => by
    have : inV (.int (j : Int)) (plV (x :: l)) = (pvEq (.int (x : Int)) (.int (j : Int))).bind fun a => (inV (.int (j : Int)) (plV l)).bind fun b => some (a || b) := rfl
    rw [this, inV_pl]
    have e : pvEq (.int (x : Int)) (.int (j : Int)) = some ((x : Int) == (j : Int)) := rfl
    rw [e]
    simp only [Option.bind_some, eqb_int, List.mem_cons]
    by_cases h : j = x
    · simp [h]
    · have : ¬ ((x : Int) = (j : Int)) := by with_reducible exact O.a12h (by assumption)
      simp [h, this]
theorem cv_notin {j : Nat} {l : List Nat} : cmpV .notin (.int j) (.lst (plV l)) = some (!decide (j ∈ l)) := by
  have e2 : flatN 6 (.lst (plV l)) = true := flat_ints 5 (fun (k : Nat) => (k : Int)) l
  have : cmpV .notin (.int j) (.lst (plV l)) = (onTrue (flatN 6 (.int j) && flatN 6 (.lst (plV l))) (inV (.int j) (plV l))).map (!·) := rfl
  rw [this, e2, inV_pl]
  rfl

structure Bf (σ : St) (L : Nat) (js : List Nat) (rs : List Rec) (ll : Int) : Prop where
  row : σ[L]? = some (some (.list (js.map fun k => .ref (L + 1 + k))))
  info : ∀ k, k < rs.length → σ[L + 1 + k]? = some (some (.inst .info (infF (rg rs k))))
  buf : σ[L + 1 + rs.length]? = some (some (.inst .buffer (bufF L ll)))
theorem Buf.bf {σ : St} {L : Nat} {rs : List Rec} {ll : Int} (B : Buf σ L rs ll) : Bf σ L (List.range rs.length) rs ll := ⟨B.row, B.info, B.buf⟩

noncomputable def firstR (w : SK) (lig id total : Int) (u : Bool) (r : Rec) : Rec := if w == .ligature then { r with g := lig, sp := 0, u := u, id := id, part := 0, cnt := total } else { r with g := lig, sp := 0, u := u }
noncomputable def ligOf (w : SK) (ll : Int) : Int := if w == .ligature then ll + 1 else ll
noncomputable def idOf (w : SK) (ll : Int) : Int := if w == .ligature then ll + 1 else 0
noncomputable def wayR (k : Nat) (l : List Nat) (rs : List Rec) : SK := wayK (rg rs k).g (l.map fun j => (rg rs j).g)
noncomputable def joinR (w : SK) (k : Nat) (l : List Nat) (lig : Int) (rs : List Rec) (ll : Int) : List Rec :=
  let t := tieAllR w (idOf w ll) k l (mergeR k (lastOf k l + 1) rs)
  t.1.set k (firstR w lig (idOf w ll) t.2 ((k :: l).any fun j => (rg t.1 j).u) (rg t.1 k))
noncomputable def keepL (n k : Nat) (l : List Nat) : List Nat := (List.range n).filter fun j => decide (j = k) || !decide (j ∈ k :: l)

theorem behindR_len' {old id a c : Int} {f s : Nat} {rs : List Rec} : (behindR old id a c f s rs).length = rs.length := behindR_len
theorem mergeR_len {k e : Nat} {rs : List Rec} : (mergeR k e rs).length = rs.length := updR_len
theorem tieAllR_len {w : SK} {id : Int} {k : Nat} {l : List Nat} {rs : List Rec} : (tieAllR w id k l rs).1.length = rs.length := by
  simp only [tieAllR]
  split
  · exact tieAll_len
  · rw [behindR_len, tieAll_len]

section
variable {n : Nat} {σ : St} {Q : PV → St → Prop} {L : Nat} {rs : List Rec} {ll : Int} {p : Bool}
theorem p_way_of {g : Int} {r : List Int} (hl : r.length + 1 < LIM) (q : Q (.str (wayK g r)) σ) : W (callN D (n + 3) .way_of [gdV, .lst (.int g :: r.map .int)]) σ Q := by
  refine W_callP (d := d_way_of) rfl rfl ?_
  dsimp [d_way_of]
  have hl1 : r.length < LIM := by omega
  simp [hl1]
  refine W_mapIf (b := fun t => match t with | .int x => !decide (cls x = 3) | _ => false) (g := fun t => t) (fun t ht => ?_) (fun t ht _ => ?_) ?_
  · obtain ⟨x, hx, rfl⟩ := List.mem_map.mp ht
    refine W.eq ?_
    simp
    refine p_glyph_class ?_
    simp
  · obtain ⟨x, hx, rfl⟩ := List.mem_map.mp ht
    refine W.eq ?_
    simp
  · have hf : ((((r.map PV.int).filter fun t => match t with | .int x => !decide (cls x = 3) | _ => false).map fun t => t)).all (flatN 5) = true := by
      rw [List.all_eq_true]
      intro t ht
      rw [List.map_id'] at ht
      obtain ⟨x, hx, rfl⟩ := List.mem_map.mp (List.mem_filter.mp ht).1
      rfl
    dsimp
    rw [cv_ne_nil hf]
    have he : (((r.map PV.int).filter fun t => match t with | .int x => !decide (cls x = 3) | _ => false).map fun t => t).isEmpty = r.all (fun x => decide (cls x = 3)) := by
      rw [List.map_id', List.filter_map]
      rw [Bool.eq_iff_iff]
      simp [List.filter_eq_nil_iff]
    rw [he]
    unfold wayK at q
    cases ha : r.all (fun x => decide (cls x = 3)) with
    | false => rw [ha] at q; simpa using q
    | true =>
      rw [ha, if_pos rfl] at q
      have e0 : subV (.lst (.int g :: r.map .int)) (.int 0) = M.pure (.int g) := sub_lst (k := 0) rfl (by simpa using hl)
      simp [kvPutAll, kvPut, e0]
      refine p_glyph_class ?_
      simp [kvGet]
      rcases cls_cases g with h | h | h | h <;> simpa [h] using q

theorem filter_all {α : Type} {f : α → Bool} {l : List α} (h : ∀ x ∈ l, f x = true) : l.filter f = l := List.filter_eq_self.mpr h
theorem keepL_eq {n k : Nat} {l : List Nat} (hl : ∀ j ∈ k :: l, k ≤ j ∧ j ≤ lastOf k l) (hn : lastOf k l < n) : keepL n k l = (List.range n).take k ++ (seg k (lastOf k l + 1)).filter (fun j => decide (j = k) || !decide (j ∈ k :: l)) ++ (List.range n).drop (lastOf k l + 1) := by
  have hk := hl k (.head _)
  have e : List.range n = seg 0 k ++ seg k (lastOf k l + 1) ++ seg (lastOf k l + 1) n := by
    rw [← seg_split (by omega) (by omega), ← seg_split (by omega) (by with_reducible exact O.a8 (by assumption))]
    rfl
  have e1 : (List.range n).take k = seg 0 k := by
    rw [e, List.append_assoc, List.take_append_of_le_length (by rw [seg_len]; omega), List.take_of_length_le (by rw [seg_len]; omega)]
  rw [keepL, e1]
  show _ = _ ++ _ ++ seg (lastOf k l + 1) n
  rw [e, List.filter_append, List.filter_append]
  rw [filter_all (l := seg 0 k), filter_all (l := seg (lastOf k l + 1) n)]
  · intro x hx
    have := mem_seg.mp hx
    have h2 : x ∉ k :: l := fun h => by have := hl x h; omega
    simp only [h2, decide_false, Bool.not_false, Bool.or_true]
  · intro x hx
    have := mem_seg.mp hx
    have h2 : x ∉ k :: l := fun h => by have := hl x h; omega
    simp only [h2, decide_false, Bool.not_false, Bool.or_true]
theorem W_setSlice {i a b : Nat} {vs ys : List PV} {σ : St} {Q : Unit → St → Prop} (h : σ[i]? = some (some (.list vs))) (h1 : a ≤ b) (h2 : b ≤ vs.length) (h3 : vs.length + ys.length < LIM) : W (setSliceV (.ref i) (.int a) (.int b) (.lst ys)) σ Q ↔ Q () (σ.set i (some (.list (vs.take a ++ ys ++ vs.drop b)))) := by
  refine (W_get (Q := fun ob σ => W (M.onList ob fun vs => M.bind (M.guard (decide (0 ≤ (a : Int)) && decide ((a : Int) ≤ b) && decide ((b : Int) ≤ vs.length) && decide (vs.length + ys.length < LIM))) fun _ => M.set i (.list (vs.take (a : Int).toNat ++ ys ++ vs.drop (b : Int).toNat))) σ Q) h).trans ?_
  simp [h3]
  intro _
  omega
theorem places_range {k : Nat} {l : List Nat} (hs : (k :: l).Pairwise (· < ·)) : ∀ j ∈ k :: l, k ≤ j ∧ j ≤ lastOf k l := by
  intro j hj
  constructor
  · cases hj with
    | head => exact Nat.le_refl _
    | tail _ h => exact Nat.le_of_lt ((List.pairwise_cons.mp hs).1 j h)
  · obtain ⟨i, hi⟩ := List.mem_iff_getElem?.mp hj
    have hil := (List.getElem?_eq_some_iff.mp hi).1
    have hlst := last_get (k := k) (l := l)
    by_cases e : i = l.length
    · subst e; rw [hlst] at hi; cases hi; exact Nat.le_refl _
    · obtain ⟨h1, h2⟩ := List.getElem?_eq_some_iff.mp hi
      obtain ⟨h3, h4⟩ := List.getElem?_eq_some_iff.mp hlst
      have := List.pairwise_iff_getElem.mp hs i l.length h1 h3 (by simp at hil; omega)
      omega
theorem any_filter {f : Nat → Bool} : ∀ {ks : List Nat}, (!((ks.filter f).map fun (j : Nat) => PV.int (j : Int)).isEmpty) = ks.any f
  | [] => rfl
  | x :: r => by
    cases h : f x with
    | true => simp [h]
    | false =>
      rw [List.filter_cons_of_neg (by simp [h]), any_filter, List.any_cons, h, Bool.false_or]
theorem p_join_end {C : Fn → List PV → M PV} (B : Buf σ L rs ll) (hn : rs.length < 150) {k : Nat} {l : List Nat} (hl : ∀ j ∈ k :: l, j < rs.length) (hll : l.length < 150) (hs : (k :: l).Pairwise (· < ·)) {v2 v5 v6 v7 v8 : Option PV}
    (q : ∀ σ', Bf σ' L (keepL rs.length k l) rs ll → Q .none σ') : W (execL C [(.setSlice (.attr (.var 3) .row) (.sub (.var 1) (.int 0)) (.bin .add (.sub (.var 1) (.neg 1)) (.int 1)) (.compIf (.sub (.var 4) (.var 11)) 11 (.callB .range [(.sub (.var 1) (.int 0)), (.bin .add (.sub (.var 1) (.neg 1)) (.int 1))]) (.bor [(.cmp .eq (.var 11) (.sub (.var 1) (.int 0))), (.cmp .notin (.var 11) (.var 1))])))]
      [some (scV (L + 1 + rs.length) p), some (.lst (plV (k :: l))), v2, some (.ref (L + 1 + rs.length)), some (.ref L), v5, v6, v7, v8, none, none, none]) σ (End Q) := by
  have hL : rs.length < LIM := lim_small (by with_reducible exact O.a13 (by assumption))
  have hl1 : l.length + 1 < LIM := lim_small (by with_reducible exact O.a13a (by assumption))
  have hr := places_range hs
  have hkl := hr k (.head _)
  have hlast := last_lt hl
  have hsub0 : subV (.lst (plV (k :: l))) (.int 0) = M.pure (.int k) := pl_sub0 hl1
  have hsubl : subV (.lst (plV (k :: l))) (.int (-1)) = M.pure (.int (lastOf k l)) := pl_subl hl1
  simp [hsub0, hsubl]
  rw [show ((lastOf k l : Int) + 1) = ((lastOf k l + 1 : Nat) : Int) by with_reducible exact O.a12, bi_range (fits_small (by with_reducible exact O.a14c) (by with_reducible exact O.a14d (by assumption) (by assumption) (by assumption))) (fits_small (by with_reducible exact O.a14c) (by with_reducible exact O.a14a (by assumption) (by assumption)))]
  simp [-Int.natCast_add, -rangeL_length]
  rw [seg_pl]
  refine fits_in (by rw [pl_len, seg_len]; exact lim_small (by omega)) ?_
  refine W_mapIf_pl (b := fun j => decide (j = k) || !decide (j ∈ k :: l)) (g := fun j => .ref (L + 1 + j)) (fun j hj => ?_) (fun j hj hb => ?_) ?_
  · refine W.eq ?_
    simp [-Int.natCast_add, hsub0]
    by_cases h : j = k
    · simp [h]
    · have hz : ((j : Int) = (k : Int)) = False := by rw [eq_iff_iff]; exact ⟨fun z => h (by with_reducible exact O.a12g (by assumption)), False.elim⟩
      simp [h, hz, cv_notin]
  · have := mem_seg.mp hj
    refine W.eq ?_
    simp [B.a_sub (show j < rs.length by omega) hL]
  have hsz : ((seg k (lastOf k l + 1)).filter (fun j => decide (j = k) || !decide (j ∈ k :: l))).length ≤ rs.length := by
    refine Nat.le_trans (List.length_filter_le _ _) ?_
    rw [seg_len]; omega
  have ee := keepL_eq (n := rs.length) hr hlast
  generalize (seg k (lastOf k l + 1)).filter (fun j => decide (j = k) || !decide (j ∈ k :: l)) = ks at hsz ee ⊢
  simp [B.a_row, hsub0, hsubl]
  rw [show ((lastOf k l : Int) + 1) = ((lastOf k l + 1 : Nat) : Int) by with_reducible exact O.a12, W_setSlice B.row (by omega) (by simp; with_reducible exact O.a8 (by assumption)) (by simp; exact lim_small (by with_reducible exact O.a13s (by assumption) (by assumption)))]
  have hlt := B.lt
  refine q _ ⟨?_, fun j hj => ?_, ?_⟩
  · rw [set_self (by with_reducible exact O.a34m (by assumption)), ee]
    simp only [refs, List.map_append, List.map_take, List.map_drop]
  · rw [set_other (by with_reducible exact O.a11)]; exact B.info j hj
  · rw [set_other (by with_reducible exact O.a11)]; exact B.buf

theorem p_join (B : Buf σ L rs ll) (hn : rs.length < 150) {k : Nat} {l : List Nat} (hl : ∀ j ∈ k :: l, j < rs.length) (hll : l.length < 150) (hs : (k :: l).Pairwise (· < ·)) (h0 : l ≠ []) {lig : Int}
    (q : ∀ σ', Bf σ' L (keepL rs.length k l) (joinR (wayR k l rs) k l lig rs ll) (ligOf (wayR k l rs) ll) → Q .none σ') :
    W (callN D (n + 4) .join [scV (L + 1 + rs.length) p, .lst (plV (k :: l)), .int lig]) σ Q := by
  have hL : rs.length < LIM := lim_small (by with_reducible exact O.a13 (by assumption))
  have hl1 : l.length + 1 < LIM := lim_small (by with_reducible exact O.a13a (by assumption))
  have hk : k < rs.length := hl k (.head _)
  have hlast := last_lt hl
  have hkl : k < lastOf k l := by
    have : lastOf k l ∈ l := by
      unfold lastOf
      rw [List.getLast_cons h0]
      exact List.getLast_mem h0
    exact (List.pairwise_cons.mp hs).1 _ this
  have hsub0 : subV (.lst (plV (k :: l))) (.int 0) = M.pure (.int k) := pl_sub0 hl1
  have hsubl : subV (.lst (plV (k :: l))) (.int (-1)) = M.pure (.int (lastOf k l)) := pl_subl hl1
  have hlp : (plV (k :: l)).length < LIM := by simpa using hl1
  refine W_callP (d := d_join) rfl rfl ?_
  dsimp [d_join]
  simp [B.a_row, -pl_len, hlp]
  refine W_mapL_pl (g := fun j => .int (rg rs j).g) (fun j hj => ?_) ?_
  · refine W.eq ?_
    simp [B.a_sub (hl j hj) hL, B.a_info (hl j hj)]
  have e1 : (k :: l).map (fun j => PV.int (rg rs j).g) = .int (rg rs k).g :: (l.map fun j => (rg rs j).g).map .int := by simp
  rw [e1]
  refine p_way_of (n := n) (by simpa using hl1) ?_
  show _
  rw [show wayK (rg rs k).g (l.map fun j => (rg rs j).g) = wayR k l rs from rfl]
  generalize wayR k l rs = w at q ⊢
  simp [hsub0, hsubl]
  rw [show ((lastOf k l : Int) + 1) = ((lastOf k l + 1 : Nat) : Int) by with_reducible exact O.a12]
  refine p_merge B hn (by omega) (by with_reducible exact O.a8 (by assumption)) fun σ₁ B₁ => ?_
  simp only [joinR] at q
  have e2 : (mergeR k (lastOf k l + 1) rs).length = rs.length := mergeR_len
  generalize mergeR k (lastOf k l + 1) rs = rs1 at B₁ q e2
  have hn1 : rs1.length < 150 := by with_reducible exact O.a13r (by assumption) (by assumption) (by assumption)
  have hkr1 : ∀ j ∈ k :: l, j < rs1.length := fun j hj => by rw [e2]; exact hl j hj
  -- the ties and what follows
  have rest : ∀ σ₂ ll₂ id, Buf σ₂ L rs1 ll₂ → ll₂ = ligOf w ll → id = idOf w ll → W (execL (callN D (n + 3)) [(.assign 7 (.callF .tie_all [(.var 4), (.var 1), (.var 5), (.var 6)])),
    (.assign 8 (.sub (.var 4) (.sub (.var 1) (.int 0)))),
    (.setAttr (.var 8) .glyph (.var 2)),
    (.setAttr (.var 8) .split_id (.int 0)),
    (.setAttr (.var 8) .is_unsafe (.cmp .ne (.compIf (.var 10) 10 (.var 1) (.attr (.sub (.var 4) (.var 10)) .is_unsafe)) (.list []))),
    (.ifs (.cmp .eq (.var 5) (.str .ligature)) [(.setAttr (.var 8) .lig_id (.var 6)),
    (.setAttr (.var 8) .lig_part (.int 0)),
    (.setAttr (.var 8) .lig_count (.var 7))] []),
    (.setSlice (.attr (.var 3) .row) (.sub (.var 1) (.int 0)) (.bin .add (.sub (.var 1) (.neg 1)) (.int 1)) (.compIf (.sub (.var 4) (.var 11)) 11 (.callB .range [(.sub (.var 1) (.int 0)), (.bin .add (.sub (.var 1) (.neg 1)) (.int 1))]) (.bor [(.cmp .eq (.var 11) (.sub (.var 1) (.int 0))), (.cmp .notin (.var 11) (.var 1))])))]
      [some (scV (L + 1 + rs.length) p), some (.lst (plV (k :: l))), some (.int lig), some (.ref (L + 1 + rs.length)), some (.ref L), some (.str w), some (.int id), none, none, none, none, none]) σ₂ (End Q) := fun σ₂ ll₂ id B₂ ell eid => by
    subst ell eid
    simp
    refine p_tie_all B₂ hn1 hkr1 hll fun σ₃ B₃ => ?_
    have e3 : (tieAllR w (idOf w ll) k l rs1).1.length = rs.length := by rw [tieAllR_len, e2]
    generalize (tieAllR w (idOf w ll) k l rs1).2 = tot at B₃ q ⊢
    generalize (tieAllR w (idOf w ll) k l rs1).1 = rs2 at B₃ q e3 ⊢
    have hk2 : k < rs2.length := by with_reducible exact O.a9 (by assumption) (by assumption)
    have hkr2 : ∀ j ∈ k :: l, j < rs2.length := fun j hj => by rw [e3]; exact hl j hj
    have hL2 : rs2.length < LIM := by with_reducible exact O.a9r (by assumption) (by assumption)
    simp [hsub0, B₃.a_sub hk2 hL2]
    refine W_setB B₃ hk2 fP1 fun σ₄ B₄ => ?_
    dsimp
    refine W_setK hk2 B₄ fP9 fun σ₅ B₅ => ?_
    dsimp
    have hl5 : (rs2.set k (((rg rs2 k).sg lig).ssp 0)).length = rs2.length := List.length_set
    refine fits_in (by simpa using hl1) ?_
    refine W_mapIf_pl (b := fun j => (rg rs2 j).u) (g := fun j => .int j) (fun j hj => ?_) (fun j hj _ => ?_) ?_
    · have hj2 : j < (rs2.set k (((rg rs2 k).sg lig).ssp 0)).length := by rw [hl5]; exact hkr2 j hj
      refine W.eq ?_
      dsimp
      rw [B₅.a_sub hj2 (by rw [hl5]; exact hL2)]
      dsimp
      rw [B₅.a_info hj2]
      dsimp
      rw [rg_set hk2]
      split
      · rename_i h; subst h; exact ⟨rfl, rfl⟩
      · exact ⟨rfl, rfl⟩
    · exact ⟨rfl, rfl⟩
    dsimp only [kLst_ap, kCmp1_ap, wE_list, wL_nil, kList_ap, List.length_nil, fit0, kCmp2_ap]
    rw [cv_ne_nil (flat_ints 5 (fun (j : Nat) => (j : Int)) _)]
    have eu : (!(((k :: l).filter fun j => (rg rs2 j).u).map fun (j : Nat) => PV.int (j : Int)).isEmpty) = (k :: l).any fun j => (rg rs2 j).u := any_filter
    rw [eu]
    generalize ((k :: l).any fun j => (rg rs2 j).u) = u at q ⊢
    dsimp
    refine W_setK hk2 B₅ fP8 fun σ₆ B₆ => ?_
    dsimp
    have fin : ∀ σ₆ r, Buf σ₆ L (rs2.set k r) (ligOf w ll) → r = firstR w lig (idOf w ll) tot u (rg rs2 k) → W (execL (callN D (n + 3)) [(.setSlice (.attr (.var 3) .row) (.sub (.var 1) (.int 0)) (.bin .add (.sub (.var 1) (.neg 1)) (.int 1)) (.compIf (.sub (.var 4) (.var 11)) 11 (.callB .range [(.sub (.var 1) (.int 0)), (.bin .add (.sub (.var 1) (.neg 1)) (.int 1))]) (.bor [(.cmp .eq (.var 11) (.sub (.var 1) (.int 0))), (.cmp .notin (.var 11) (.var 1))])))]
      [some (scV (L + 1 + rs.length) p), some (.lst (plV (k :: l))), some (.int lig), some (.ref (L + 1 + rs.length)), some (.ref L), some (.str w), some (.int (idOf w ll)), some (.int tot), some (.ref (L + 1 + k)), none, none, none]) σ₆ (End Q) := fun σ₆ r B' er => by
      subst er
      have hl4 : (rs2.set k (firstR w lig (idOf w ll) tot u (rg rs2 k))).length = rs.length := by rw [List.length_set]; exact e3
      have := p_join_end (C := callN D (n + 3)) (p := p) (k := k) (l := l) (Q := Q) (v2 := some (.int lig)) (v5 := some (.str w)) (v6 := some (.int (idOf w ll))) (v7 := some (.int tot)) (v8 := some (.ref (L + 1 + k))) B' (by rw [hl4]; exact hn) (fun j hj => by rw [hl4]; exact hl j hj) hll hs (by rw [hl4]; exact q)
      rw [hl4] at this
      exact this
    cases hw : w == SK.ligature with
    | false => exact fin _ _ B₆ (by rw [firstR, hw]; rfl)
    | true =>
      dsimp
      refine W_setK hk2 B₆ fP5 fun σ₇ B₇ => ?_
      dsimp
      refine W_setK hk2 B₇ fP6 fun σ₈ B₈ => ?_
      dsimp
      refine W_setK hk2 B₈ fP7 fun σ₉ B₉ => ?_
      exact fin _ _ B₉ (by rw [firstR, hw]; rfl)
  dsimp
  cases hw : w == SK.ligature with
  | false => exact rest σ₁ ll 0 B₁ (by simp [ligOf, hw]) (by simp [idOf, hw])
  | true =>
    dsimp
    have er : L + 1 + rs.length = L + 1 + rs1.length := by rw [e2]
    have gk : ∀ {Q : Option Fn → St → Prop}, Q (some .next_lig) σ₁ → W (methK .next_lig (.ref (L + 1 + rs.length))) σ₁ Q := fun q => by
      rw [er]
      unfold methK
      rw [W_bind, W_get B₁.buf]
      simpa [methI] using q
    refine gk ?_
    dsimp
    rw [er]
    refine p_next_lig B₁ fun σ₂ B₂ => ?_
    rw [← er]
    exact rest σ₂ (ll + 1) (ll + 1) B₂ (by simp [ligOf, hw]) (by simp [idOf, hw])
end
end Mine.B
namespace Mine.B
set_option autoImplicit false
set_option linter.unusedVariables false
set_option linter.unusedSimpArgs false
set_option maxRecDepth 100000
set_option Elab.async false
set_option backward.defeqAttrib.useBackward true

structure Res where
  goal : Int
  js : List Nat
  rs : List Rec
  ll : Int
abbrev Ent := List Int × Int
noncomputable def entV (e : Ent) : PV := .tup [.tup (e.1.map .int), .int e.2]
abbrev Tab := List (Int × List Ent)
noncomputable def tabKvs (T : Tab) : List (Int × PV) := T.map fun p => (p.1, .lst (p.2.map entV))
noncomputable def getT (g : Int) : Tab → List Ent
  | [] => []
  | (h, es) :: r => if g = h then es else getT g r
theorem getT_kv {g : Int} : ∀ {T : Tab}, (kvGet g (tabKvs T)).getD (.lst []) = .lst ((getT g T).map entV)
  | [] => rfl
  | (h, es) :: r => by
    have := getT_kv (g := g) (T := r)
    simp only [tabKvs, List.map_cons, kvGet, getT] at this ⊢
    split
    · rfl
    · exact this
theorem getT_mem {g : Int} {e : Ent} : ∀ {T : Tab}, e ∈ getT g T → ∃ q ∈ T, e ∈ q.2
  | [], h => by cases h
  | (x, es) :: r, h => by
    rw [getT] at h
    split at h
    · exact ⟨_, .head _, h⟩
    · obtain ⟨q, h1, h2⟩ := getT_mem h; exact ⟨q, .tail _ h1, h2⟩

noncomputable def applyR (p : Bool) (rs : List Rec) (ll : Int) (k : Nat) : List Ent → Res
  | [] => ⟨-1, List.range rs.length, rs, ll⟩
  | (rest, lig) :: es => if rest = [] then ⟨(k : Int) + 1, List.range rs.length, rs.set k { rg rs k with g := lig }, ll⟩ else
    match chase p rs rest k with
    | none => applyR p rs ll k es
    | some l => if l.all fun j => holdOk (rg rs k) (rg rs j) then ⟨(lastOf k l : Int) + 1 - rest.length, keepL rs.length k l, joinR (wayR k l rs) k l lig rs ll, ligOf (wayR k l rs) ll⟩ else applyR p rs ll k es

theorem chase_ok {p : Bool} {rs : List Rec} : ∀ {rest : List Int} {k : Nat} {l : List Nat}, k < rs.length → chase p rs rest k = some l → (∀ j ∈ k :: l, j < rs.length) ∧ (k :: l).Pairwise (· < ·) ∧ l.length = rest.length
  | [], k, l, hk, h => by
    cases h
    exact ⟨by simpa using hk, by simp, rfl⟩
  | x :: r, k, l, hk, h => by
    rw [chase] at h
    cases hf : fnd p x rs (rs.length - (k + 1)) (k + 1) with
    | none => rw [hf] at h; cases h
    | some i =>
      rw [hf] at h
      have hb := fnd_lt hf
      cases hc : chase p rs r i with
      | none => simp [hc] at h
      | some m =>
        simp [hc] at h
        subst h
        obtain ⟨h1, h2, h3⟩ := chase_ok (show i < rs.length by with_reducible exact O.a23 (by assumption) (by assumption)) hc
        refine ⟨fun j hj => ?_, List.pairwise_cons.mpr ⟨fun j hj => ?_, h2⟩, by simp [h3]⟩
        · cases hj with
          | head => exact hk
          | tail _ h => exact h1 j h
        · cases hj with
          | head => with_reducible exact O.a23b (by assumption)
          | tail _ h => have := (List.pairwise_cons.mp h2).1 j h; with_reducible exact O.a23a (by assumption) (by assumption)
theorem cv_eq_nil {xs : List Int} : cmpV .eq (.tup (xs.map .int)) (.tup []) = some (decide (xs = [])) := by
  have e1 : flatN 6 (.tup (xs.map .int)) = true := flat_ints 5 (fun x => x) xs
  have e2 : flatN 6 (.tup []) = true := rfl
  have : cmpV .eq (.tup (xs.map .int)) (.tup []) = onTrue (flatN 6 (.tup (xs.map .int)) && flatN 6 (.tup [])) (pvEq (.tup (xs.map .int)) (.tup [])) := rfl
  rw [this, e1, e2]
  cases xs <;> rfl
@[simp] theorem cv_isnot1 : cmpV .isnot .none .none = some false := rfl
@[simp] theorem cv_isnot2 {vs : List PV} : cmpV .isnot (.lst vs) .none = some true := rfl
@[simp] theorem fSets {v : PV} : fGet .sets [(.sets, v)] = some v := rfl

section
variable {n : Nat} {σ : St} {Q : PV → St → Prop} {L : Nat} {rs : List Rec} {ll : Int} {p : Bool}
theorem p_apply (B : Buf σ L rs ll) (hn : rs.length < 150) (ho : ∀ k, k < rs.length → Ok (rg rs k)) {k : Nat} (hk : k < rs.length) {T : Tab} (hT : ∀ e ∈ getT (rg rs k).g T, e.1.length < 150)
    (q : ∀ σ', Bf σ' L (applyR p rs ll k (getT (rg rs k).g T)).js (applyR p rs ll k (getT (rg rs k).g T)).rs (applyR p rs ll k (getT (rg rs k).g T)).ll → Q (.int (applyR p rs ll k (getT (rg rs k).g T)).goal) σ') :
    W (callN D (n + 7) .apply_ligature [scV (L + 1 + rs.length) p, .inst .ligature [(.sets, .dct (tabKvs T))], .int k]) σ Q := by
  have hL : rs.length < LIM := lim_small (by with_reducible exact O.a13 (by assumption))
  refine W_callP (d := d_apply_ligature) rfl rfl ?_
  dsimp [d_apply_ligature]
  simp [B.a_row, B.a_sub hk hL, B.a_info hk, getT_kv]
  generalize hes : getT (rg rs k).g T = es at hT q ⊢
  obtain ⟨I, hI⟩ : ∃ I : Nat → Env → St → Prop, ∀ i ρ σ', I i ρ σ' ↔ Buf σ' L rs ll ∧ ∃ (u v w : Option PV), ρ = [some (scV (L + 1 + rs.length) p), some (.inst .ligature [(.sets, .dct (tabKvs T))]), some (.int k), some (.ref L), some (.int (rg rs k).g), u, v, w] ∧
      applyR p rs ll k es = applyR p rs ll k (es.drop i) := ⟨_, fun _ _ _ => Iff.rfl⟩
  refine W_forL I _ 0 _ _ (fun i ρ σ' t ht hi => ?_) (fun ρ σ' hi => ?_) ((hI _ _ _).mpr ⟨B, none, none, none, rfl, rfl⟩)
  · rw [Nat.zero_add] at hi ⊢
    obtain ⟨B', u, v, w, rfl, a6⟩ := (hI _ _ _).mp hi
    rw [List.getElem?_map] at ht
    obtain ⟨e, he, rfl⟩ : ∃ e, es[i]? = some e ∧ entV e = t := by
      cases hx : es[i]? with
      | none => rw [hx] at ht; cases ht
      | some x => rw [hx] at ht; exact ⟨x, rfl, by simpa using ht⟩
    obtain ⟨rest, lig⟩ := e
    have hrl : rest.length < 150 := hT _ (List.mem_of_getElem? he)
    have hrl2 : 1 + rest.length < LIM := lim_small (by omega)
    rw [drop_at he, applyR] at a6
    obtain ⟨tl, htl⟩ : ∃ tl : List PS, tl = [(.assign 7 (.callF .input_at [(.var 0), (.var 2), (.callF .glyph_tests [(.bin .add (.tup [(.var 4)]) (.var 5))])])),
    (.ifs (.band [(.cmp .isnot (.var 7) .none), (.callF .hold_together [(.var 3), (.var 7)])]) [(.expr (.callF .join [(.var 0), (.var 7), (.var 6)])),
    (.ret (.bin .sub (.bin .add (.sub (.var 7) (.neg 1)) (.int 1)) (.callB .len [(.var 5)])))] [])] := ⟨_, rfl⟩
    rw [← htl]
    simp [entV, cv_eq_nil]
    by_cases hr : rest = []
    · rw [if_pos hr] at a6
      rw [a6] at q
      simp only [hr, decide_true, WT_true]
      simp [B'.a_sub hk hL]
      refine W_setB B' hk fP1 fun σ₂ B₂ => ?_
      refine q σ₂ ?_
      have := B₂.bf
      simpa [Rec.sg] using this
    · rw [if_neg hr] at a6
      simp only [hr, decide_false, WT_false]
      obtain ⟨t2, ht2⟩ : ∃ t2 : List PS, t2 = tl.drop 1 := ⟨_, rfl⟩
      have ht : tl = (.assign 7 (.callF .input_at [(.var 0), (.var 2), (.callF .glyph_tests [(.bin .add (.tup [(.var 4)]) (.var 5))])])) :: t2 := by rw [ht2, htl]; rfl
      rw [ht]
      simp
      have e5 : PV.int (rg rs k).g :: rest.map PV.int = ((rg rs k).g :: rest).map PV.int := rfl
      simp [hrl2, Nat.add_comm rest.length 1]
      have go : ∀ σ₂ v, Buf σ₂ L rs ll → applyR p rs ll k es = applyR p rs ll k (es.drop (i + 1)) → I (i + 1) [some (scV (L + 1 + rs.length) p), some (.inst .ligature [(.sets, .dct (tabKvs T))]), some (.int k), some (.ref L), some (.int (rg rs k).g), some (.tup (rest.map .int)), some (.int lig), v] σ₂ :=
        fun σ₂ v B₂ e => (hI _ _ _).mpr ⟨B₂, _, _, _, rfl, e⟩
      rw [e5]
      refine p_glyph_tests (n := n + 5) (by simpa using lim_small (show rest.length + 1 < 1000 by with_reducible exact O.a13a (by assumption))) ?_
      refine p_input_at (n := n) B' hn ho hrl hk fun σ₂ B₂ => ?_
      have ht3 : t2 = [(.ifs (.band [(.cmp .isnot (.var 7) .none), (.callF .hold_together [(.var 3), (.var 7)])]) [(.expr (.callF .join [(.var 0), (.var 7), (.var 6)])),
    (.ret (.bin .sub (.bin .add (.sub (.var 7) (.neg 1)) (.int 1)) (.callB .len [(.var 5)])))] [])] := by rw [ht2, htl]; rfl
      subst ht3
      unfold plans
      cases hc : chase p rs rest k with
      | none =>
        rw [hc] at a6
        simp [placesV]
        exact go _ _ B₂ a6
      | some l =>
        rw [hc] at a6
        dsimp only at a6
        obtain ⟨c1, c2, c3⟩ := chase_ok hk hc
        have hll : l.length < 150 := by with_reducible exact O.a13r (by assumption) (by assumption) (by assumption)
        have hl1 : l.length + 1 < LIM := lim_small (by with_reducible exact O.a13a (by assumption))
        have h0 : l ≠ [] := fun h => hr (List.eq_nil_of_length_eq_zero (by rw [← c3, h]; rfl))
        simp [placesV]
        refine p_hold (n := n + 4) B₂ hL hk (fun j hj => c1 j (.tail _ hj)) hl1 ?_
        cases hh : l.all fun j => holdOk (rg rs k) (rg rs j) with
        | false =>
          rw [hh] at a6
          simpa using go _ _ B₂ (by simpa using a6)
        | true =>
          rw [hh] at a6
          rw [a6] at q
          simp
          refine p_join (n := n + 2) B₂ hn c1 hll c2 h0 fun σ₃ B₃ => ?_
          simp [pl_subl hl1]
          exact q σ₃ B₃
  · rw [Nat.zero_add, List.length_map] at hi
    obtain ⟨B', u, v, w, rfl, a6⟩ := (hI _ _ _).mp hi
    rw [List.drop_of_length_le (Nat.le_refl _)] at a6
    rw [a6] at q
    simp only [applyR] at q
    simpa using q σ' B'.bf
end
end Mine.B
namespace Mine.B
set_option autoImplicit false
set_option linter.unusedVariables false
set_option linter.unusedSimpArgs false
set_option maxRecDepth 100000
set_option Elab.async false
set_option backward.defeqAttrib.useBackward true

noncomputable def Ext (σ σ' : St) : Prop := σ.length ≤ σ'.length ∧ ∀ i, i < σ.length → σ'[i]? = σ[i]?
theorem Ext.refl {σ : St} : Ext σ σ := ⟨Nat.le_refl _, fun _ _ => rfl⟩
theorem Ext.trans {σ σ₁ σ₂ : St} (h : Ext σ σ₁) (h2 : Ext σ₁ σ₂) : Ext σ σ₂ := ⟨Nat.le_trans h.1 h2.1, fun i hi => by rw [h2.2 i (by have := h.1; with_reducible exact O.a34i (by assumption) (by assumption)), h.2 i hi]⟩
theorem Ext.alloc {σ σ' : St} {o : Option PObj} (h : Ext σ σ') : Ext σ (σ' ++ [o]) := ⟨by have := h.1; simp; with_reducible exact O.a34 (by assumption), fun i hi => by rw [List.getElem?_append_left (by have := h.1; with_reducible exact O.a34i (by assumption) (by assumption)), h.2 i hi]⟩
theorem Ext.set {σ σ' : St} {o : Option PObj} {j : Nat} (h : Ext σ σ') (hj : σ.length ≤ j) : Ext σ (σ'.set j o) := ⟨by have := h.1; simpa using this, fun i hi => by rw [set_other (by omega), h.2 i hi]⟩
theorem Buf.ext {σ σ' : St} {L : Nat} {rs : List Rec} {ll : Int} (B : Buf σ L rs ll) (h : Ext σ σ') : Buf σ' L rs ll := by
  have hlt := B.lt
  exact ⟨by rw [h.2 _ (by with_reducible exact O.a34m (by assumption))]; exact B.row, fun k hk => by rw [h.2 _ (by with_reducible exact O.a34n (by assumption) (by assumption))]; exact B.info k hk, by rw [h.2 _ (by omega)]; exact B.buf⟩

theorem bv_mod2 {a : Int} : binV .mod (.int a) (.int 2) = some (.int (a % 2)) := by
  have : binV .mod (.int a) (.int 2) = if (2 : Int) = 0 then none else some (.int (a.fmod 2)) := rfl
  rw [this, if_neg (by decide), Int.fmod_eq_emod_of_nonneg _ (by decide)]
theorem cv_eqt {a b c d : Int} : cmpV .eq (.tup [.int a, .int b]) (.tup [.int c, .int d]) = some (decide (a = c) && decide (b = d)) := by
  simp only [← eqb_int]
  show some ((a == c) && ((b == d) && true)) = _
  rw [Bool.and_true]
noncomputable def lawPl (p : Bool) (rs : List Rec) (rest : List Int) (k : Nat) : Option (List Nat) := match chase p rs rest k with
  | none => none
  | some l => if l.all fun j => holdOk (rg rs k) (rg rs j) then some (k :: l) else none
noncomputable def pieceI (r : Rec) : Int × Int := if 0 < r.id ∧ 0 < r.part then (r.id, r.part) else (0, 0)
noncomputable def pieceV (r : Rec) : PV := .tup [.int (pieceI r).1, .int (pieceI r).2]
@[simp] theorem pieceV0 {r : Rec} : subV (pieceV r) (.int 0) = M.pure (.int (pieceI r).1) := rfl

section
variable {n : Nat} {σ : St} {Q : PV → St → Prop} {L : Nat} {rs : List Rec} {ll : Int} {p : Bool}
theorem p_law_classes (q : Q (.dct clsKvs) σ) : W (callN D (n + 1) .law_classes []) σ Q := by
  refine W_callP (d := d_law_classes) rfl rfl ?_
  dsimp [d_law_classes]
  simpa [kvPutAll, kvPut, clsKvs] using q
theorem pieceI_pc {r : Rec} (ho : Ok r) : pieceI r = if pc r then (r.id, r.part) else (0, 0) := by
  unfold pieceI pc
  have h1 := ho.id
  have h2 := ho.part
  by_cases h3 : r.id = 0
  · rw [if_neg (by omega)]; simp [h3]
  · by_cases h4 : r.part = 0
    · rw [if_neg (by omega)]; simp [h4]
    · rw [if_pos (by omega)]; simp [h3, h4]
noncomputable def pieceBad (f o : Rec) : Bool := (!decide (pieceI f = (0, 0)) && !decide (pieceI o = pieceI f)) || (decide (pieceI f = (0, 0)) && !decide (pieceI o = (0, 0)) && !decide ((pieceI o).1 = f.id))
theorem pieceBad_hold {f o : Rec} (hf : Ok f) (ho : Ok o) : pieceBad f o = !holdOk f o := by
  unfold pieceBad holdOk
  rw [pieceI_pc hf, pieceI_pc ho]
  have hne : ∀ r, pc r = true → r.id ≠ 0 := fun r h => by
    unfold pc at h
    simp at h
    exact h.1
  cases h1 : pc f with
  | true =>
    have hf0 := hne f h1
    cases h2 : pc o with
    | true => simp [hf0, Prod.ext_iff]
    | false =>
      have : ¬ (o.id = f.id ∧ o.part = f.part) := fun z => by
        unfold pc at h1 h2
        rw [z.1, z.2] at h2
        rw [h1] at h2; cases h2
      have e1 : decide (((f.id, f.part) : Int × Int) = (0, 0)) = false := by simp [hf0]
      have e2 : decide (((0, 0) : Int × Int) = (f.id, f.part)) = false := by
        rw [decide_eq_false_iff_not]
        intro h
        exact hf0 (congrArg Prod.fst h).symm
      have e3 : (decide (o.id = f.id) && decide (o.part = f.part)) = false := Bool.eq_false_iff.mpr fun h => this (by simpa using h)
      simp only [if_true, if_false, e1, e2, e3]
      simp [e1, e2]
      exact .inl fun h => hf0 h.symm
  | false =>
    cases h2 : pc o with
    | true =>
      have ho0 := hne o h2
      simp [ho0]
    | false => simp
theorem pv_ne {f o : Rec} : cmpV .ne (pieceV o) (pieceV f) = some (!decide (pieceI o = pieceI f)) := by
  unfold pieceV
  rw [cv_net]
  simp [Prod.ext_iff, Bool.decide_and]
theorem pv_ne0 {o : Rec} : cmpV .ne (pieceV o) (.tup [.int 0, .int 0]) = some (!decide (pieceI o = (0, 0))) := by
  unfold pieceV
  rw [cv_net]
  simp [Prod.ext_iff, Bool.decide_and]
theorem pv_eq0 {o : Rec} : cmpV .eq (pieceV o) (.tup [.int 0, .int 0]) = some (decide (pieceI o = (0, 0))) := by
  unfold pieceV
  rw [cv_eqt]
  simp [Prod.ext_iff, Bool.decide_and]
theorem p_pieces {C : Fn → List PV → M PV} (hn : rs.length < 150) (ho : ∀ k, k < rs.length → Ok (rg rs k)) {k : Nat} {l : List Nat} (hl : ∀ j ∈ k :: l, j < rs.length) (hll : l.length < 150) {v2 v3 v5 v6 v7 : Option PV}
    (q : Q (placesV (if l.all fun j => holdOk (rg rs k) (rg rs j) then some (k :: l) else none)) σ) :
    W (execL C (d_law_places.body.drop 4) [some (.lst (rs.map recPV)), some (.int k), v2, v3, some (.lst (plV (k :: l))), v5, v6, v7, none, none, none]) σ (End Q) := by
  have hL : rs.length < LIM := lim_small (by with_reducible exact O.a13 (by assumption))
  have hl1 : l.length + 1 < LIM := lim_small (by with_reducible exact O.a13a (by assumption))
  have hk := hl k (.head _)
  simp [d_law_places]
  refine fits_in (hl1) (W_mapL_pl (g := fun j => pieceV (rg rs j)) (fun j hj => ?_) ?_)
  · refine W.eq ?_
    simp [sub_row (hl j hj) hL]
    by_cases h1 : 0 < (rg rs j).id
    · by_cases h2 : 0 < (rg rs j).part
      · simp [h1, h2, sub_row (hl j hj) hL, pieceV, pieceI]
      · simp [h1, h2, sub_row (hl j hj) hL, pieceV, pieceI]
    · simp [h1, pieceV, pieceI]
  simp
  have e0 : subV (.lst (pieceV (rg rs k) :: l.map fun j => pieceV (rg rs j))) (.int 0) = M.pure (pieceV (rg rs k)) := sub_lst (k := 0) rfl (by simpa using hl1)
  obtain ⟨I, hI⟩ : ∃ I : Nat → Env → St → Prop, ∀ i ρ σ', I i ρ σ' ↔ σ' = σ ∧ ∃ (v9 : Option PV), ρ = [some (.lst (rs.map recPV)), some (.int k), v2, v3, some (.lst (plV (k :: l))), v5, v6, v7, some (.lst (pieceV (rg rs k) :: l.map fun j => pieceV (rg rs j))), v9, none] ∧
      l.all (fun j => holdOk (rg rs k) (rg rs j)) = (l.drop i).all (fun j => holdOk (rg rs k) (rg rs j)) := ⟨_, fun _ _ _ => Iff.rfl⟩
  refine W_forL I _ 0 _ _ (fun i ρ σ' t ht hi => ?_) (fun ρ σ' hi => ?_) ((hI _ _ _).mpr ⟨rfl, none, rfl, rfl⟩)
  · rw [Nat.zero_add] at hi ⊢
    obtain ⟨rfl, v9, rfl, a6⟩ := (hI _ _ _).mp hi
    rw [List.getElem?_map] at ht
    obtain ⟨j, hj, rfl⟩ : ∃ j, l[i]? = some j ∧ pieceV (rg rs j) = t := by
      cases hx : l[i]? with
      | none => rw [hx] at ht; cases ht
      | some x => rw [hx] at ht; exact ⟨x, rfl, by simpa using ht⟩
    have hjr := hl j (.tail _ (List.mem_of_getElem? hj))
    rw [drop_at hj, List.all_cons] at a6
    have hb := pieceBad_hold (ho k hk) (ho j hjr)
    have go : pieceBad (rg rs k) (rg rs j) = false → I (i + 1) [some (.lst (rs.map recPV)), some (.int k), v2, v3, some (.lst (plV (k :: l))), v5, v6, v7, some (.lst (pieceV (rg rs k) :: l.map fun j => pieceV (rg rs j))), some (pieceV (rg rs j)), none] σ' := fun e => by
      rw [e] at hb
      have : holdOk (rg rs k) (rg rs j) = true := by simpa using hb
      rw [this, Bool.true_and] at a6
      exact (hI _ _ _).mpr ⟨rfl, _, rfl, a6⟩
    have no : pieceBad (rg rs k) (rg rs j) = true → Q .none σ' := fun e => by
      rw [e] at hb
      have : holdOk (rg rs k) (rg rs j) = false := by simpa using hb
      rw [this, Bool.false_and] at a6
      rw [a6] at q
      simpa [placesV] using q
    clear hI ht hi hb a6
    unfold pieceBad at go no
    dsimp
    rw [e0]
    dsimp
    rw [pv_ne0]
    generalize hx : decide (pieceI (rg rs k) = (0, 0)) = x at go no ⊢
    cases x with
    | true =>
      dsimp
      rw [e0]
      dsimp
      rw [pv_eq0, hx]
      dsimp
      rw [pv_ne0]
      cases hy : decide (pieceI (rg rs j) = (0, 0)) with
      | true => rw [hy] at go; exact go rfl
      | false =>
        rw [hy] at go no
        dsimp
        rw [sub_row hk hL]
        dsimp
        rw [cv_ne]
        cases hw : decide ((pieceI (rg rs j)).1 = (rg rs k).id) with
        | true => rw [hw] at go; exact go rfl
        | false => rw [hw] at no; exact no rfl
    | false =>
      dsimp
      rw [e0]
      dsimp
      rw [pv_ne]
      cases hz : decide (pieceI (rg rs j) = pieceI (rg rs k)) with
      | true =>
        rw [hz] at go
        dsimp
        rw [e0]
        dsimp
        rw [pv_eq0, hx]
        exact go rfl
      | false => rw [hz] at no; exact no rfl
  · rw [Nat.zero_add, List.length_map] at hi
    obtain ⟨rfl, v9, rfl, a6⟩ := (hI _ _ _).mp hi
    rw [List.drop_of_length_le (Nat.le_refl _)] at a6
    rw [a6] at q
    simpa [placesV] using q
theorem p_law_places (hn : rs.length < 150) (ho : ∀ k, k < rs.length → Ok (rg rs k)) {k : Nat} {rest : List Int} (hr : rest.length < 150) (hk : k < rs.length) (q : ∀ σ', Ext σ σ' → Q (placesV (lawPl p rs rest k)) σ') :
    W (callN D (n + 2) .law_places [.lst (rs.map recPV), .int k, .tup (rest.map .int), .bool p]) σ Q := by
  have hL : rs.length < LIM := lim_small (by with_reducible exact O.a13 (by assumption))
  refine W_callP (d := d_law_places) rfl rfl ?_
  dsimp [d_law_places]
  obtain ⟨I, hI⟩ : ∃ I : Nat → Env → St → Prop, ∀ i ρ σ', I i ρ σ' ↔ Ext σ σ' ∧ ∃ (acc : List Nat) (j : Nat) (v6 v7 : Option PV), acc ≠ [] ∧ acc.length ≤ i + 1 ∧ j < rs.length ∧ σ'[σ.length]? = some (some (.list (plV acc))) ∧
      ρ = [some (.lst (rs.map recPV)), some (.int k), some (.tup (rest.map .int)), some (.bool p), some (.ref σ.length), some (.int j), v6, v7, none, none, none] ∧ plans p rs rest k = (chase p rs (rest.drop i) j).map (acc ++ ·) := ⟨_, fun _ _ _ => Iff.rfl⟩
  refine W_forL I (rest.map .int) 0 _ _ (fun i ρ σ' t ht hi => ?_) (fun ρ σ' hi => ?_) ((hI _ _ _).mpr ⟨Ext.refl.alloc, [k], k, none, none, by simp, by simp, hk, by simp [plV], rfl, by simp [plans]⟩)
  · rw [Nat.zero_add] at hi ⊢
    obtain ⟨E', acc, j, v6, v7, a1, a2, a4, a5, rfl, a6⟩ := (hI _ _ _).mp hi
    obtain ⟨x, hx, rfl⟩ : ∃ x, rest[i]? = some x ∧ t = .int x := by
      rw [List.getElem?_map] at ht
      cases hx : rest[i]? with
      | none => rw [hx] at ht; cases ht
      | some x => rw [hx] at ht; cases ht; exact ⟨x, rfl, rfl⟩
    rw [drop_at hx, chase] at a6
    simp
    have none_case : fnd p x rs (rs.length - (j + 1)) (j + 1) = none → Q .none σ' := fun h => by
      rw [h] at a6
      have := q σ' E'
      unfold plans at a6
      unfold lawPl at this
      cases hc : chase p rs rest k with
      | none => rw [hc] at this; exact this
      | some l => rw [hc] at a6; simp at a6
    obtain ⟨J, hJ⟩ : ∃ J : Nat → Env → St → Prop, ∀ m ρ σ'', J m ρ σ'' ↔ σ'' = σ' ∧ ∃ (h : Nat) (v7 : Option PV), h ≤ rs.length ∧ j < h ∧ m = rs.length - h ∧ ρ = [some (.lst (rs.map recPV)), some (.int k), some (.tup (rest.map .int)), some (.bool p), some (.ref σ.length), some (.int h), some (.int x), v7, none, none, none] ∧
      fnd p x rs (rs.length - (j + 1)) (j + 1) = fnd p x rs m h := ⟨_, fun _ _ _ => Iff.rfl⟩
    refine W_while J (fun m ρ σ'' hi => ?_) (rs.length - (j + 1)) _ _ (by unfold WH; with_reducible exact O.a6 (by assumption)) ((hJ _ _ _).mpr ⟨rfl, j + 1, v7, by with_reducible exact O.a8 (by assumption), by with_reducible exact O.a34e, rfl, rfl, rfl⟩)
    obtain ⟨rfl, h, v7, h1, hj, rfl, rfl, h3⟩ := (hJ _ _ _).mp hi
    by_cases hlt : h < rs.length
    · simp [hlt]
      refine ⟨by with_reducible exact O.a5 (by assumption), ?_⟩
      obtain ⟨f, hf⟩ : ∃ f, rs.length - h = f + 1 := ⟨rs.length - h - 1, by with_reducible exact O.a1 (by assumption)⟩
      rw [hf, fnd] at h3
      have go : ∀ v, fnd p x rs (rs.length - (j + 1)) (j + 1) = fnd p x rs f (h + 1) → J (rs.length - h - 1) [some (.lst (rs.map recPV)), some (.int k), some (.tup (rest.map .int)), some (.bool p), some (.ref σ.length), some (.int ((h : Int) + 1)), some (.int x), v, none, none, none] σ'' :=
        fun v e => (hJ _ _ _).mpr ⟨rfl, h + 1, v, hlt, by with_reducible exact O.a34d (by assumption), by with_reducible exact O.a4, rfl, by rw [e]; congr 1; with_reducible exact O.a2 (by assumption)⟩
      have found : ∀ v, fnd p x rs (rs.length - (j + 1)) (j + 1) = some h → W (execL (callN D (n + 1)) [(.ifs (.cmp .ge (.var 5) (.callB .len [(.var 0)])) [(.ret .none)] []), (.expr (.meth (.var 4) .append [(.var 5)]))]
          [some (.lst (rs.map recPV)), some (.int k), some (.tup (rest.map .int)), some (.bool p), some (.ref σ.length), some (.int h), some (.int x), v, none, none, none]) σ''
          (Turn (I (i + 1)) (After (callN D (n + 1)) (D .law_places).body.tail.tail.tail (End Q))) := fun v e => by
        rw [e] at a6
        have hh : ¬ (rs.length ≤ h) := by omega
        simp [hh]
        rw [W_append_k a5]
        simp
        rw [W_append a5 (by simp [plV]; exact lim_small (by have := (List.getElem?_eq_some_iff.mp hx).1; with_reducible exact O.a13m (by assumption) (by assumption) (by assumption)))]
        refine (hI _ _ _).mpr ⟨E'.set (Nat.le_refl _), acc ++ [h], h, _, _, by simp, by simp; omega, hlt, ?_, rfl, ?_⟩
        · rw [set_self (live_lt a5)]
          simp [plV]
        · rw [a6]
          dsimp only
          rw [Option.map_map]
          congr 1
          funext l
          simp
      have cont : ∀ b, b = (p && decide (cls (rg rs h).g = 3)) → W (execL (callN D (n + 1)) [(.ifs (.band [(.not (.var 7)), (.cmp .eq (.sub (.sub (.var 0) (.var 5)) (.int 0)) (.var 6)), (.cmp .eq (.bin .mod (.sub (.sub (.var 0) (.var 5)) (.int 2)) (.int 2)) (.int 1))]) [.brk] []),
    (.ifs (.band [(.not (.var 7)), (.cmp .notin (.sub (.sub (.var 0) (.var 5)) (.int 3)) (.tup [(.str .zwj), (.str .hidden)]))]) [(.ret .none)] []),
    (.assign 5 (.bin .add (.var 5) (.int 1)))] [some (.lst (rs.map recPV)), some (.int k), some (.tup (rest.map .int)), some (.bool p), some (.ref σ.length), some (.int h), some (.int x), some (.bool b), none, none, none]) σ''
          (Turn (J (rs.length - h - 1)) (After (callN D (n + 1)) [(.ifs (.cmp .ge (.var 5) (.callB .len [(.var 0)])) [(.ret .none)] []), (.expr (.meth (.var 4) .append [(.var 5)]))] (Turn (I (i + 1)) (After (callN D (n + 1)) (D .law_places).body.tail.tail.tail (End Q))))) := fun b hb => by
        rw [← hb] at h3
        cases b with
        | true =>
          rw [if_pos rfl] at h3
          exact go _ h3
        | false =>
          rw [if_neg (by simp)] at h3
          dsimp
          rw [sub_row hlt hL]
          dsimp
          rw [cv_eq]
          have hkind : (if okK (rg rs h).k = true then fnd p x rs f (h + 1) else none) = fnd p x rs (rs.length - (j + 1)) (j + 1) → W (execL (callN D (n + 1)) [(.ifs (.band [(.not (.var 7)), (.cmp .notin (.sub (.sub (.var 0) (.var 5)) (.int 3)) (.tup [(.str .zwj), (.str .hidden)]))]) [(.ret .none)] []),
    (.assign 5 (.bin .add (.var 5) (.int 1)))] [some (.lst (rs.map recPV)), some (.int k), some (.tup (rest.map .int)), some (.bool p), some (.ref σ.length), some (.int h), some (.int x), some (.bool false), none, none, none]) σ'' (Turn (J (rs.length - h - 1)) (After (callN D (n + 1)) [(.ifs (.cmp .ge (.var 5) (.callB .len [(.var 0)])) [(.ret .none)] []), (.expr (.meth (.var 4) .append [(.var 5)]))] (Turn (I (i + 1)) (After (callN D (n + 1)) (D .law_places).body.tail.tail.tail (End Q))))) := fun h4 => by
            dsimp
            rw [sub_row hlt hL]
            dsimp
            rw [cv_kinds]
            cases hk : okK (rg rs h).k with
            | true => rw [hk, if_pos rfl] at h4; exact go _ h4.symm
            | false => rw [hk, if_neg Bool.false_ne_true] at h4; exact none_case h4.symm
          by_cases hg : x = (rg rs h).g
          · rw [decide_eq_true hg.symm]
            rw [decide_eq_true hg, Bool.true_and] at h3
            dsimp
            rw [sub_row hlt hL]
            dsimp
            rw [bv_mod2]
            dsimp
            rw [cv_eq]
            by_cases hm : (rg rs h).m % 2 = 1
            · rw [decide_eq_true hm]
              rw [if_pos (decide_eq_true hm)] at h3
              exact found (some (.bool false)) h3
            · rw [decide_eq_false hm]
              rw [if_neg (by rw [decide_eq_false hm]; exact Bool.false_ne_true)] at h3
              exact hkind h3.symm
          · rw [decide_eq_false (fun z => hg z.symm)]
            rw [if_neg (by rw [decide_eq_false hg]; exact Bool.false_ne_true)] at h3
            exact hkind h3.symm
      cases hp : p with
      | false =>
        subst hp
        exact cont false rfl
      | true =>
        subst hp
        dsimp
        refine p_law_classes (n := n) ?_
        dsimp
        rw [sub_row hlt hL]
        dsimp
        rw [cls_get]
        rw [cv_eq]
        exact cont (decide (cls (rg rs h).g = 3)) rfl
    · have e1 : h = rs.length := by with_reducible exact O.a7 (by assumption) (by assumption)
      subst e1
      have e3 : fnd p x rs (rs.length - (j + 1)) (j + 1) = none := by rw [h3, Nat.sub_self]; rfl
      simpa using none_case e3
  · rw [Nat.zero_add, List.length_map] at hi
    obtain ⟨E', acc, j, v6, v7, a1, a2, a4, a5, rfl, a6⟩ := (hI _ _ _).mp hi
    rw [List.drop_of_length_le (Nat.le_refl _)] at a6
    unfold plans at a6
    simp [chase] at a6
    obtain ⟨l, hc, rfl⟩ := a6
    obtain ⟨c1, c2, c3⟩ := chase_ok hk hc
    simp only [After_next, W_cons, wS_frz, Env.get]
    simp
    rw [W_freeze_list a5 (plV_flat _)]
    have E2 : Ext σ (σ'.set σ.length none) := E'.set (Nat.le_refl _)
    generalize σ'.set σ.length none = σ₂ at E2 ⊢
    have := p_pieces (C := callN D (n + 1)) (σ := σ₂) (Q := Q) (v2 := some (.tup (rest.map .int))) (v3 := some (.bool p)) (v5 := some (.int j)) (v6 := v6) (v7 := v7) hn ho c1 (by with_reducible exact O.a13r (by assumption) (by assumption) (by assumption)) (by have := q σ₂ E2; unfold lawPl at this; rw [hc] at this; exact this)
    simpa [d_law_places] using this
end
end Mine.B
namespace Mine.B
set_option autoImplicit false
set_option linter.unusedVariables false
set_option linter.unusedSimpArgs false
set_option maxRecDepth 100000
set_option Elab.async false
set_option backward.defeqAttrib.useBackward true

noncomputable def sumI : List Int → Int
  | [] => 0
  | x :: r => x + sumI r
theorem foldl_sum : ∀ {xs : List Int} {b : Int}, xs.foldl (· + ·) b = b + sumI xs
  | [], b => by simp [sumI]
  | x :: r, b => by rw [List.foldl_cons, foldl_sum, sumI, Int.add_assoc]
noncomputable def cnts (rs : List Rec) (pl : List Nat) : List Int := pl.map fun j => cntOf (rg rs j)
noncomputable def doneN (pl : List Nat) (i : Nat) : Nat := (pl.filter fun j => decide (j ≤ i)).length
theorem doneN_zero {l : List Nat} {i : Nat} (h : ∀ j ∈ l, i < j) : doneN l i = 0 := by
  unfold doneN
  rw [List.filter_eq_nil_iff.mpr]
  · rfl
  · intro j hj
    have := h j hj
    simp; omega
theorem doneN_cons {x i : Nat} {l : List Nat} (h : x ≤ i) : doneN (x :: l) i = doneN l i + 1 := by
  unfold doneN
  rw [List.filter_cons_of_pos (by simpa using h), List.length_cons]
theorem rg_ext {a b : List Rec} (h : a.length = b.length) (h2 : ∀ j, j < a.length → rg a j = rg b j) : a = b := by
  apply List.ext_getElem?
  intro i
  by_cases hi : i < a.length
  · rw [rg_get hi, rg_get (by omega), h2 i hi]
  · rw [List.getElem?_eq_none (by omega), List.getElem?_eq_none (by omega)]
theorem lastOf_cons {k x : Nat} {l : List Nat} : lastOf k (x :: l) = lastOf x l := by
  unfold lastOf
  rw [List.getLast_cons (by simp)]
theorem lastOf_nil {k : Nat} : lastOf k [] = k := rfl
theorem lastOf_ge {k : Nat} {l : List Nat} (hs : (k :: l).Pairwise (· < ·)) : k ≤ lastOf k l := (places_range hs k (.head _)).2

noncomputable def stepT (wh : Bool) (id a c : Int) (prev x : Nat) (rs : List Rec) : List Rec := if wh then updR (tieR id a c) (x - (prev + 1)) (prev + 1) rs else rs
theorem stepT_len {wh : Bool} {id a c : Int} {prev x : Nat} {rs : List Rec} : (stepT wh id a c prev x rs).length = rs.length := by
  cases wh with
  | false => rfl
  | true => exact updR_len
theorem stepT_rg {wh : Bool} {id a c : Int} {prev x j : Nat} {rs : List Rec} (hp : prev < x) (hx : x < rs.length) : rg (stepT wh id a c prev x rs) j = if wh = true ∧ prev < j ∧ j < x then tieR id a c (rg rs j) else rg rs j := by
  cases wh with
  | false => rw [if_neg (fun z => nomatch z.1)]; rfl
  | true =>
    show rg (updR (tieR id a c) (x - (prev + 1)) (prev + 1) rs) j = _
    rw [updR_rg (by with_reducible exact O.a24b (by assumption) (by assumption))]
    by_cases h : prev < j ∧ j < x
    · rw [if_pos (by with_reducible exact O.a24a (by assumption) (by assumption)), if_pos ⟨rfl, h⟩]
    · rw [if_neg (by with_reducible exact O.a24 (by assumption) (by assumption)), if_neg (fun z => h z.2)]
theorem stepT_ge {wh : Bool} {id a c : Int} {prev x j : Nat} {rs : List Rec} (hp : prev < x) (hx : x < rs.length) (h : x ≤ j) : rg (stepT wh id a c prev x rs) j = rg rs j := by
  rw [stepT_rg hp hx, if_neg (fun z => Nat.not_lt.mpr h z.2.2)]
theorem stepT_cnts {wh : Bool} {id a c : Int} {prev x : Nat} {rs : List Rec} (hp : prev < x) (hx : x < rs.length) {l : List Nat} (h : ∀ y ∈ l, x < y) : cnts (stepT wh id a c prev x rs) l = cnts rs l :=
  List.map_congr_left fun y hy => congrArg cntOf (stepT_ge hp hx (Nat.le_of_lt (h y hy)))
theorem tieAll_cons {wh : Bool} {id : Int} {x : Nat} {l : List Nat} {prev : Nat} {a c o : Int} {rs : List Rec} : tieAll wh id (x :: l) prev a c o rs = tieAll wh id l x (a + c) (cntOf (rg (stepT wh id a c prev x rs) x)) (rg (stepT wh id a c prev x rs) x).id (stepT wh id a c prev x rs) := rfl
theorem not_mem_cons {j x : Nat} {l : List Nat} (h : j ≠ x) (h2 : j ∉ l) : j ∉ x :: l := fun z => (List.mem_cons.mp z).elim h h2

theorem tieAll_rg {wh : Bool} {id : Int} {l : List Nat} {prev : Nat} {a c o : Int} {rs : List Rec} (hs : (prev :: l).Pairwise (· < ·)) (hl : ∀ j ∈ prev :: l, j < rs.length) (j : Nat) :
    rg (tieAll wh id l prev a c o rs).1 j = if wh = true ∧ prev < j ∧ j < lastOf prev l ∧ j ∉ l then tieR id (a + sumI ((c :: cnts rs l).take (doneN l j))) (((c :: cnts rs l)[doneN l j]?).getD 0) (rg rs j) else rg rs j := by
  induction l generalizing prev a c o rs with
  | nil =>
    rw [if_neg (fun z => Nat.lt_asymm z.2.1 z.2.2.1)]
    rfl
  | cons x l ih =>
    have hs2 := (List.pairwise_cons.mp hs).2
    have hxl : ∀ y ∈ l, x < y := (List.pairwise_cons.mp hs2).1
    have hxr : x < rs.length := hl x (.tail _ (.head _))
    have hpx : prev < x := (List.pairwise_cons.mp hs).1 x (.head _)
    have hle := lastOf_ge hs2
    rw [tieAll_cons, ih hs2 (fun j hj => by rw [stepT_len]; exact hl j (.tail _ hj)), stepT_ge hpx hxr (Nat.le_refl x), stepT_cnts hpx hxr hxl, stepT_rg hpx hxr, lastOf_cons, show c :: cnts rs (x :: l) = c :: cntOf (rg rs x) :: cnts rs l from rfl]
    clear ih hs hl hs2
    rcases Nat.lt_trichotomy j x with h | h | h
    · have hd : ∀ y ∈ x :: l, j < y := fun y hy => (List.mem_cons.mp hy).elim (fun e => e ▸ h) fun e => Nat.lt_trans h (hxl y e)
      rw [if_neg (fun z => Nat.lt_asymm h z.2.1), doneN_zero hd]
      by_cases hw : wh = true ∧ prev < j
      · rw [if_pos ⟨hw.1, hw.2, h⟩, if_pos ⟨hw.1, hw.2, Nat.lt_of_lt_of_le h hle, fun z => Nat.lt_irrefl _ (hd j z)⟩]
        show _ = tieR id (a + 0) c _
        rw [Int.add_zero]
      · rw [if_neg (fun z => hw ⟨z.1, z.2.1⟩), if_neg (fun z => hw ⟨z.1, z.2.1⟩)]
    · cases h
      rw [if_neg (fun z => Nat.lt_irrefl _ z.2.1), if_neg (fun z => Nat.lt_irrefl _ z.2.2), if_neg (fun z => z.2.2.2 (.head _))]
    · rw [doneN_cons (Nat.le_of_lt h), List.take_succ_cons, sumI, List.getElem?_cons_succ, if_neg (c := wh = true ∧ prev < j ∧ j < x) (fun z => Nat.lt_asymm h z.2.2)]
      by_cases hw : wh = true ∧ x < j ∧ j < lastOf x l ∧ j ∉ l
      · rw [if_pos hw, if_pos ⟨hw.1, Nat.lt_trans hpx h, hw.2.2.1, not_mem_cons (Nat.ne_of_gt h) hw.2.2.2⟩, Int.add_assoc]
      · rw [if_neg hw, if_neg (fun z => hw ⟨z.1, h, z.2.2.1, fun hy => z.2.2.2 (.tail _ hy)⟩)]
theorem tieAll_end {wh : Bool} {id : Int} {l : List Nat} {prev : Nat} {a c : Int} {rs : List Rec} (hs : (prev :: l).Pairwise (· < ·)) (hl : ∀ j ∈ prev :: l, j < rs.length) {o : Int} :
    (tieAll wh id l prev a c o rs).2.1 = a + sumI ((c :: cnts rs l).take l.length) ∧ (tieAll wh id l prev a c o rs).2.2.1 = ((c :: cnts rs l)[l.length]?).getD 0 ∧ (o = (rg rs prev).id → (tieAll wh id l prev a c o rs).2.2.2 = (rg rs (lastOf prev l)).id) := by
  induction l generalizing prev a c o rs with
  | nil => exact ⟨(Int.add_zero a).symm, rfl, fun h => h⟩
  | cons x l ih =>
    have hs2 := (List.pairwise_cons.mp hs).2
    have hxl : ∀ y ∈ l, x < y := (List.pairwise_cons.mp hs2).1
    have hxr : x < rs.length := hl x (.tail _ (.head _))
    have hpx : prev < x := (List.pairwise_cons.mp hs).1 x (.head _)
    have hr := stepT_ge (wh := wh) (id := id) (a := a) (c := c) (prev := prev) hpx hxr (Nat.le_refl x)
    have := ih (a := a + c) (c := cntOf (rg (stepT wh id a c prev x rs) x)) (o := (rg (stepT wh id a c prev x rs) x).id) (rs := stepT wh id a c prev x rs) hs2 (fun j hj => by rw [stepT_len]; exact hl j (.tail _ hj))
    rw [stepT_cnts hpx hxr hxl, stepT_ge hpx hxr (lastOf_ge hs2)] at this
    rw [tieAll_cons, lastOf_cons]
    refine ⟨this.1.trans ?_, this.2.1.trans ?_, fun _ => this.2.2 rfl⟩
    · rw [hr, List.length_cons, List.take_succ_cons, sumI, Int.add_assoc]; rfl
    · rw [hr]; rfl

theorem mergeR_rg {k e j : Nat} {rs : List Rec} (hk : k ≤ e) (he : e ≤ rs.length) : rg (mergeR k e rs) j = if wDn (rg rs k).c rs k ≤ j ∧ j < wUp (rg rs (e - 1)).c rs (rs.length - e) e then setC (leastC k e rs) (rg rs j) else rg rs j := by
  have u1 := wUp_le (x := (rg rs (e - 1)).c) (rs := rs) (f := rs.length - e) (e := e)
  have d1 := wDn_le (x := (rg rs k).c) (rs := rs) (b := k)
  rw [mergeR, updR_rg (by omega)]
  by_cases h : wDn (rg rs k).c rs k ≤ j ∧ j < wUp (rg rs (e - 1)).c rs (rs.length - e) e
  · rw [if_pos h, if_pos (by omega)]
  · rw [if_neg h, if_neg (by omega)]

noncomputable def dueF (w : SK) (id : Int) (k : Nat) (l : List Nat) (rs : List Rec) (lo hi : Nat) (least : Int) (i : Nat) : Rec :=
  let r := if lo ≤ i ∧ i < hi then setC least (rg rs i) else rg rs i
  if (w == .ligature) = true ∧ k < i ∧ i < lastOf k l ∧ i ∉ k :: l then tieR id (sumI ((cnts rs (k :: l)).take (doneN (k :: l) i - 1))) (((cnts rs (k :: l))[doneN (k :: l) i - 1]?).getD 0) r else r
noncomputable def dueL (w : SK) (id : Int) (k : Nat) (l : List Nat) (rs : List Rec) : List Rec :=
  (List.range rs.length).map (dueF w id k l rs (wDn (rg rs k).c rs k) (wUp (rg rs (lastOf k l)).c rs (rs.length - (lastOf k l + 1)) (lastOf k l + 1)) (leastC k (lastOf k l + 1) rs))
theorem rg_map {f : Nat → Rec} {n j : Nat} (h : j < n) : rg ((List.range n).map f) j = f j := by
  unfold rg
  rw [List.getElem?_map, List.getElem?_range h]; rfl
theorem setC_same {x : Int} {r : Rec} : (setC x r).cnt = r.cnt ∧ (setC x r).id = r.id ∧ (setC x r).part = r.part := by
  unfold setC
  split <;> exact ⟨rfl, rfl, rfl⟩
theorem mergeR_same {k e j : Nat} {rs : List Rec} (hk : k ≤ e) (he : e ≤ rs.length) : (rg (mergeR k e rs) j).cnt = (rg rs j).cnt ∧ (rg (mergeR k e rs) j).id = (rg rs j).id ∧ (rg (mergeR k e rs) j).part = (rg rs j).part := by
  rw [mergeR_rg hk he]
  split
  · exact setC_same
  · exact ⟨rfl, rfl, rfl⟩
theorem tieAll_due {w : SK} {id : Int} {k : Nat} {l : List Nat} {rs : List Rec} (hl : ∀ j ∈ k :: l, j < rs.length) (hs : (k :: l).Pairwise (· < ·)) {c o : Int} (hc : c = cntOf (rg rs k)) :
    (tieAll (w == .ligature) id l k 0 c o (mergeR k (lastOf k l + 1) rs)).1 = dueL w id k l rs := by
  have hlast := last_lt hl
  have hkl := lastOf_ge hs
  have hm := fun j => mergeR_same (j := j) (show k ≤ lastOf k l + 1 by with_reducible exact O.a34 (by assumption)) (show lastOf k l + 1 ≤ rs.length by with_reducible exact O.a8 (by assumption))
  apply rg_ext
  · rw [tieAll_len, mergeR_len]; simp [dueL]
  · intro j hj
    rw [tieAll_len, mergeR_len] at hj
    rw [tieAll_rg hs (fun j hj => by rw [mergeR_len]; exact hl j hj)]
    unfold dueL
    rw [rg_map hj, mergeR_rg (by with_reducible exact O.a34 (by assumption)) (by with_reducible exact O.a8 (by assumption)), Nat.add_sub_cancel]
    unfold dueF
    dsimp only
    generalize (if wDn (rg rs k).c rs k ≤ j ∧ j < wUp (rg rs (lastOf k l)).c rs (rs.length - (lastOf k l + 1)) (lastOf k l + 1) then setC (leastC k (lastOf k l + 1) rs) (rg rs j) else rg rs j) = r
    have ec : c :: cnts (mergeR k (lastOf k l + 1) rs) l = cnts rs (k :: l) := by
      rw [hc]
      show _ = cntOf (rg rs k) :: cnts rs l
      congr 1
      unfold cnts
      apply List.map_congr_left
      intro y _
      unfold cntOf
      rw [(hm y).1]
    rw [ec, Int.zero_add]
    by_cases hw : (w == SK.ligature) = true ∧ k < j ∧ j < lastOf k l ∧ j ∉ l
    · have hnot : j ∉ k :: l := fun hy => by
        cases hy with
        | head => omega
        | tail _ h2 => exact hw.2.2.2 h2
      rw [if_pos hw, if_pos ⟨hw.1, hw.2.1, hw.2.2.1, hnot⟩, doneN_cons (by omega), Nat.add_sub_cancel]
    · rw [if_neg hw, if_neg (fun z => hw ⟨z.1, z.2.1, z.2.2.1, fun hy => z.2.2.2 (.tail _ hy)⟩)]
noncomputable def lawJ (w : SK) (id : Int) (k : Nat) (l : List Nat) (lig : Int) (rs : List Rec) : List Rec :=
  let d := dueL w id k l rs
  let cs := cnts rs (k :: l)
  let d2 := if w == .mark then d else behindR (rg rs (lastOf k l)).id id (sumI (cs.take l.length)) ((cs[l.length]?).getD 0) (rs.length - (lastOf k l + 1)) (lastOf k l + 1) d
  d2.set k (firstR w lig id (sumI cs) ((k :: l).any fun j => (rg d2 j).u) (rg d2 k))
theorem sumI_last : ∀ {n : Nat} {xs : List Int}, xs.length = n + 1 → sumI (xs.take n) + (xs[n]?).getD 0 = sumI xs
  | 0, [x], _ => by simp [sumI]
  | n + 1, x :: xs, h => by
    have := sumI_last (n := n) (xs := xs) (by simpa using h)
    rw [List.take_succ_cons, sumI, sumI, List.getElem?_cons_succ]
    omega
  | 0, x :: y :: r, h => by simp at h
theorem joinR_law {k : Nat} {l : List Nat} {lig ll : Int} {rs : List Rec} (w : SK) (hl : ∀ j ∈ k :: l, j < rs.length) (hs : (k :: l).Pairwise (· < ·)) : joinR w k l lig rs ll = lawJ w (idOf w ll) k l lig rs := by
  have hlast := last_lt hl
  have hkl := lastOf_ge hs
  have hm := fun j => mergeR_same (j := j) (show k ≤ lastOf k l + 1 by with_reducible exact O.a34 (by assumption)) (show lastOf k l + 1 ≤ rs.length by with_reducible exact O.a8 (by assumption))
  have ec : cntOf (rg (mergeR k (lastOf k l + 1) rs) k) :: cnts (mergeR k (lastOf k l + 1) rs) l = cnts rs (k :: l) := by
    unfold cnts
    rw [List.map_cons]
    congr 1
    · unfold cntOf; rw [(hm k).1]
    · apply List.map_congr_left
      intro y _
      unfold cntOf
      rw [(hm y).1]
  obtain ⟨e1, e2, e3⟩ := tieAll_end (wh := w == .ligature) (id := idOf w ll) (rs := mergeR k (lastOf k l + 1) rs) (a := 0) (c := cntOf (rg (mergeR k (lastOf k l + 1) rs) k)) (o := (rg (mergeR k (lastOf k l + 1) rs) k).id) hs (fun j hj => by rw [mergeR_len]; exact hl j hj)
  have e3 := e3 rfl
  rw [ec] at e1 e2
  rw [(hm (lastOf k l)).2.1] at e3
  have e0 := tieAll_due (w := w) (id := idOf w ll) (c := cntOf (rg (mergeR k (lastOf k l + 1) rs) k)) (o := (rg (mergeR k (lastOf k l + 1) rs) k).id) hl hs (by unfold cntOf; rw [(hm k).1])
  have e4 := sumI_last (n := l.length) (xs := cnts rs (k :: l)) (by simp [cnts])
  simp only [joinR, tieAllR, lawJ]
  rw [e0, e1, e2, e3, mergeR_len, Int.zero_add, e4]
end Mine.B
namespace Mine.B
set_option autoImplicit false
set_option linter.unusedVariables false
set_option linter.unusedSimpArgs false
set_option maxRecDepth 100000
set_option Elab.async false
set_option backward.defeqAttrib.useBackward true

noncomputable def recItems (r : Rec) : List PV := [.int r.g, .int r.c, .int r.m, .str r.k, .int r.id, .int r.part, .int r.cnt, .bool r.u, .int r.sp]
theorem recPV_items {r : Rec} : recPV r = .lst (recItems r) := rfl
theorem recItems_len {r : Rec} : (recItems r).length = 9 := rfl
theorem recItems_flat {r : Rec} : (recItems r).all (flatN 0) = true := rfl

structure Due (σ₀ σ : St) (L : Nat) (ds : List Rec) : Prop where
  ext : Ext σ₀ σ
  le : σ₀.length ≤ L
  row : σ[L]? = some (some (.list (refs L ds.length)))
  item : ∀ k, k < ds.length → σ[L + 1 + k]? = some (some (.list (recItems (rg ds k))))
section
variable {σ₀ σ : St} {L : Nat} {ds : List Rec}
theorem Due.upd (B : Due σ₀ σ L ds) {k : Nat} (h : k < ds.length) (r : Rec) : Due σ₀ (σ.set (L + 1 + k) (some (.list (recItems r)))) L (ds.set k r) := by
  have hlt := live_lt (B.item k h)
  have := B.le
  refine ⟨B.ext.set (by omega), B.le, ?_, fun j hj => ?_⟩
  · rw [set_other (by with_reducible exact O.a11'), List.length_set]; exact B.row
  · rw [List.length_set] at hj
    rw [rg_set h]
    by_cases e : j = k
    · subst e; rw [set_self (by omega), if_pos rfl]
    · rw [set_other (by with_reducible exact O.a10 (by assumption)), if_neg e]; exact B.item j hj
theorem Due.a_sub (B : Due σ₀ σ L ds) {k : Nat} {Q : PV → St → Prop} (hk : k < ds.length) (hn : ds.length < LIM) : W (subV (.ref L) (.int k)) σ Q ↔ Q (.ref (L + 1 + k)) σ :=
  W_sub_ref B.row (refs_get hk) (by simpa using hn)
theorem Due.a_get (B : Due σ₀ σ L ds) {k i : Nat} {v : PV} {Q : PV → St → Prop} (hk : k < ds.length) (hi : (recItems (rg ds k))[i]? = some v) : W (subV (.ref (L + 1 + k)) (.int i)) σ Q ↔ Q v σ :=
  W_sub_ref (B.item k hk) hi (by rw [recItems_len]; decide)
theorem Due.a_len (B : Due σ₀ σ L ds) {Q : PV → St → Prop} : W (builtinM .len [.ref L]) σ Q ↔ Q (.int ds.length) σ := by
  refine (W_get (Q := fun o σ => W (M.onList o fun vs => M.pure (.int vs.length)) σ Q) B.row).trans ?_
  simp
theorem W_setSub_of {σ : St} {j k : Nat} {x : Int} {vs : List PV} {v : PV} {Q : Unit → St → Prop} (h : σ[j]? = some (some (.list vs))) (e : idx vs.length x = some k) : W (setSubV (.ref j) (.int x) v) σ Q ↔ Q () (σ.set j (some (.list (vs.set k v)))) := by
  refine (W_get (Q := fun ob σ => W (M.onList ob fun vs => M.bind (M.ofOpt (idx vs.length x)) fun p => M.set j (.list (vs.set p v))) σ Q) h).trans ?_
  show W (M.bind (M.ofOpt (idx vs.length x)) fun p => M.set j (.list (vs.set p v))) σ Q ↔ _
  rw [e]
  exact Iff.rfl
theorem W_setSub {σ : St} {j k : Nat} {vs : List PV} {v : PV} {Q : Unit → St → Prop} (h : σ[j]? = some (some (.list vs))) (hk : k < vs.length) (hn : vs.length < LIM) : W (setSubV (.ref j) (.int k) v) σ Q ↔ Q () (σ.set j (some (.list (vs.set k v)))) := by
  exact W_setSub_of h (idx_nat hk hn)
theorem Due.a_set (B : Due σ₀ σ L ds) {k i : Nat} {v : PV} {r : Rec} {Q : Unit → St → Prop} (hk : k < ds.length) (hi : i < 9) (hr : (recItems (rg ds k)).set i v = recItems r) (q : ∀ σ', Due σ₀ σ' L (ds.set k r) → Q () σ') : W (setSubV (.ref (L + 1 + k)) (.int i) v) σ Q := by
  rw [W_setSub (B.item k hk) (by rw [recItems_len]; exact hi) (by rw [recItems_len]; decide), hr]
  exact q _ (B.upd hk r)
theorem Due.a_tie (B : Due σ₀ σ L ds) {k : Nat} {id part cnt : Int} {Q : Unit → St → Prop} (hk : k < ds.length) (q : ∀ σ', Due σ₀ σ' L (ds.set k { rg ds k with id := id, part := part, cnt := cnt }) → Q () σ') : W (setSliceV (.ref (L + 1 + k)) (.int 4) (.int 7) (.lst [.int id, .int part, .int cnt])) σ Q := by
  have := (W_setSlice (Q := Q) (a := 4) (b := 7) (ys := [.int id, .int part, .int cnt]) (B.item k hk) (by decide) (by rw [recItems_len]; decide) (lim_small (by rw [recItems_len]; simp))).mpr (q _ (B.upd hk { rg ds k with id := id, part := part, cnt := cnt }))
  exact this
theorem Due.a_setK {k i : Nat} (hk : k < ds.length) {r r' : Rec} (B : Due σ₀ σ L (ds.set k r)) (hi : i < 9) {v : PV} {Q : Unit → St → Prop} (hr : (recItems r).set i v = recItems r') (q : ∀ σ', Due σ₀ σ' L (ds.set k r') → Q () σ') : W (setSubV (.ref (L + 1 + k)) (.int i) v) σ Q := by
  have hk1 : k < (ds.set k r).length := by rw [List.length_set]; exact hk
  refine B.a_set hk1 hi (r := r') (by rw [rg_set hk, if_pos rfl]; exact hr) fun σ' B' => q σ' ?_
  rw [List.set_set] at B'
  exact B'
theorem Due.a_subK {k j : Nat} (hj : j < ds.length) (hn : ds.length < LIM) {r : Rec} (B : Due σ₀ σ L (ds.set k r)) {Q : PV → St → Prop} : W (subV (.ref L) (.int j)) σ Q ↔ Q (.ref (L + 1 + j)) σ :=
  B.a_sub (by rw [List.length_set]; exact hj) (by rw [List.length_set]; exact hn)
theorem Due.a_tieK {k : Nat} (hk : k < ds.length) {r : Rec} (B : Due σ₀ σ L (ds.set k r)) {id part cnt : Int} {Q : Unit → St → Prop} (q : ∀ σ', Due σ₀ σ' L (ds.set k (((r.sid id).spt part).scn cnt)) → Q () σ') : W (setSliceV (.ref (L + 1 + k)) (.int 4) (.int 7) (.lst [.int id, .int part, .int cnt])) σ Q := by
  have hk1 : k < (ds.set k r).length := by rw [List.length_set]; exact hk
  refine B.a_tie hk1 fun σ' B' => q σ' ?_
  rw [List.set_set, rg_set hk, if_pos rfl] at B'
  exact B'
end

theorem boolsOf_map {α : Type} (f : α → Bool) : ∀ (xs : List α), boolsOf (xs.map fun x => .bool (f x)) = some (xs.map f)
  | [] => rfl
  | x :: r => by
    show (boolsOf (r.map fun x => .bool (f x))).map (f x :: ·) = _
    rw [boolsOf_map f r]
    rfl
theorem bi_any {l : List Nat} {f : Nat → Bool} : builtinM .any [.lst (l.map fun j => .bool (f j))] = M.pure (.bool (l.any f)) := by
  have : builtinM .any [.lst (l.map fun j => PV.bool (f j))] = M.ofOpt (do let ns ← boolsOf (l.map fun j => PV.bool (f j)); some (.bool (ns.any id))) := rfl
  rw [this, boolsOf_map]
  simp [Option.bind]
  rfl
theorem bi_sum {xs : List Int} : builtinM .sum [.lst (xs.map .int)] = M.pure (.int (sumI xs)) := by
  have : builtinM .sum [.lst (xs.map .int)] = M.ofOpt (do let ns ← intsOf (xs.map .int); some (.int (ns.foldl (· + ·) 0))) := rfl
  rw [this]
  have e : intsOf (xs.map .int) = some xs := by simpa using intsOf_map (fun x => x) xs
  rw [e]
  show M.ofOpt (some (PV.int (xs.foldl (· + ·) 0))) = _
  rw [foldl_sum, Int.zero_add]
  rfl

theorem W_freezeL_objs {B n : Nat} {v : Nat → PV} {o : Nat → PObj} (hone : ∀ j σ (Q : PV → St → Prop), σ[B + j]? = some (some (o j)) → Q (v j) (σ.set (B + j) none) → W (freeze n (.ref (B + j))) σ Q) :
    ∀ (js : List Nat) (σ : St) (Q : List PV → St → Prop), js.Pairwise (· < ·) → (∀ j ∈ js, σ[B + j]? = some (some (o j))) →
    (∀ σ' : St, σ'.length = σ.length → (∀ i, (∀ j ∈ js, i ≠ B + j) → σ'[i]? = σ[i]?) → Q (js.map v) σ') → W (mapL (freeze n) (js.map fun j => .ref (B + j))) σ Q
  | [], σ, Q, _, _, q => q σ rfl fun _ _ => rfl
  | j :: js, σ, Q, hs, h, q => by
    refine hone j σ (fun x σ' => W (mapL (freeze n) (js.map fun j => .ref (B + j))) σ' fun xs σ'' => Q (x :: xs) σ'') (h j (.head _)) ?_
    refine W_freezeL_objs hone js _ (fun xs σ'' => Q (v j :: xs) σ'') (List.pairwise_cons.mp hs).2 (fun i hi => ?_) fun σ' e1 e2 => ?_
    · have := (List.pairwise_cons.mp hs).1 i hi
      rw [set_other (by with_reducible exact O.a11t (by assumption))]
      exact h i (.tail _ hi)
    · refine q σ' (by rw [e1, List.length_set]) fun i hi => ?_
      rw [e2 i fun x hx => hi x (.tail _ hx), set_other (fun z => hi j (.head _) z.symm)]
theorem keepL_pairwise {n k : Nat} {l : List Nat} : (keepL n k l).Pairwise (· < ·) := List.Pairwise.filter _ List.pairwise_lt_range
theorem mem_keepL {n k j : Nat} {l : List Nat} (h : j ∈ keepL n k l) : j < n := List.mem_range.mp (List.mem_filter.mp h).1

section
variable {n : Nat} {σ₀ σ : St} {Q : PV → St → Prop} {L : Nat} {ds : List Rec}
theorem freeze_items {n : Nat} {j : Nat} {r : Rec} {σ : St} {Q : PV → St → Prop} (h : σ[j]? = some (some (.list (recItems r)))) (q : Q (recPV r) (σ.set j none)) : W (freeze (n + 1) (.ref j)) σ Q :=
  (W_freeze_list h recItems_flat).mpr q
theorem p_joined_ret {C : Fn → List PV → M PV} (B : Due σ₀ σ L ds) (hn : ds.length < 150) {k : Nat} {l : List Nat} (hk : k < ds.length) {wb : Bool} {v0 v2 v3 v4 v6 v8 v9 v10 v11 v13 v14 v15 v16 : Option PV}
    (q : ∀ σ', Ext σ₀ σ' → Q (.tup [.lst ((keepL ds.length k l).map fun j => recPV (rg ds j)), .bool wb]) σ') :
    W (execL C (d_law_joined.body.drop 17) [v0, some (.lst (plV (k :: l))), v2, v3, v4, some (.bool wb), v6, some (.int k), v8, v9, v10, v11, some (.ref L), v13, v14, v15, v16, none, none, none, none, none, none]) σ (End Q) := by
  have hL : ds.length < LIM := lim_small (by with_reducible exact O.a13 (by assumption))
  simp only [d_law_joined, List.drop]
  simp [B.a_len]
  rw [bi_range1 (fits_small (by with_reducible exact O.a14c) (by with_reducible exact O.a14b (by assumption)))]
  simp [-rangeL_length]
  have es : rangeL 0 (ds.length : Int) = plV (List.range ds.length) := by
    have := seg_pl (a := 0) (b := ds.length)
    simpa [seg] using this
  rw [es]
  refine fits_in (by simpa using hL) (W_mapIf_pl (b := fun j => decide (j = k) || !decide (j ∈ k :: l)) (g := fun j => .ref (L + 1 + j)) (fun j hj => ?_) (fun j hj hb => ?_) ?_)
  · refine W.eq ?_
    simp [-Int.natCast_add]
    by_cases h : j = k
    · simp [h]
    · have hz : ((j : Int) = (k : Int)) = False := by rw [eq_iff_iff]; exact ⟨fun z => h (by with_reducible exact O.a12g (by assumption)), False.elim⟩
      simp [h, hz, cv_notin]
  · refine W.eq ?_
    simp [B.a_sub (List.mem_range.mp hj) hL]
  show W (freeze 9 (.lst ((keepL ds.length k l).map fun j => .ref (L + 1 + j)))) _ _
  generalize hks : keepL ds.length k l = ks at q ⊢
  have hp : ks.Pairwise (· < ·) := by rw [← hks]; exact keepL_pairwise
  have hm : ∀ j ∈ ks, j < ds.length := fun j hj => by rw [← hks] at hj; exact mem_keepL hj
  show W (M.bind (mapL (freeze 8) _) fun us => M.pure (PV.lst us)) _ _
  rw [W_bind]
  refine W_freezeL_objs (B := L + 1) (v := fun j => recPV (rg ds j)) (o := fun j => .list (recItems (rg ds j))) (n := 8) (fun j σ Q h q => ?_) _ _ _ hp (fun j hj => B.item j (hm j hj)) fun σ' e1 e2 => ?_
  · exact freeze_items h q
  · simp
    refine q σ' ⟨by rw [e1]; exact B.ext.1, fun i hi => ?_⟩
    rw [e2 i fun j _ => by have := B.le; omega]
    exact B.ext.2 i hi
theorem p_joined_end {C : Fn → List PV → M PV} (B : Due σ₀ σ L ds) (hn : ds.length < 150) {k : Nat} {l : List Nat} (hl : ∀ j ∈ k :: l, j < ds.length) (hll : l.length < 150) {w : SK} {lig fresh : Int} {cs : List Int} {v0 v4 v8 v9 v10 v11 v13 v14 v15 v16 : Option PV}
    (q : ∀ σ', Ext σ₀ σ' → Q (.tup [.lst ((keepL ds.length k l).map fun j => recPV (rg (ds.set k (firstR w lig fresh (sumI cs) ((k :: l).any fun j => (rg ds j).u) (rg ds k))) j)), .bool (w == .ligature)]) σ') :
    W (execL C (d_law_joined.body.drop 13) [v0, some (.lst (plV (k :: l))), some (.int lig), some (.int fresh), v4, some (.bool (w == .ligature)), some (.lst (cs.map .int)), some (.int k), v8, v9, v10, v11, some (.ref L), v13, v14, v15, v16, none, none, none, none, none, none]) σ (End Q) := by
  have hL : ds.length < LIM := lim_small (by with_reducible exact O.a13 (by assumption))
  have hl1 : l.length + 1 < LIM := lim_small (by with_reducible exact O.a13a (by assumption))
  have hk := hl k (.head _)
  dsimp only [d_law_joined, List.drop]
  dsimp
  rw [B.a_sub hk hL]
  dsimp
  refine B.a_set (i := 0) hk (by decide) (r := (rg ds k).sg lig) rfl fun σ₁ B₁ => ?_
  dsimp
  rw [Due.a_subK hk hL B₁]
  dsimp
  refine Due.a_setK (i := 8) hk B₁ (by decide) (r' := ((rg ds k).sg lig).ssp 0) rfl fun σ₂ B₂ => ?_
  dsimp
  refine fits_in (by rw [pl_len]; exact hl1) (W_mapL_pl (g := fun j => .bool (rg ds j).u) (fun j hj => ?_) ?_)
  · refine W.eq ?_
    dsimp
    rw [Due.a_subK (hl j hj) hL B₂]
    dsimp
    rw [show (7 : Int) = ((7 : Nat) : Int) from rfl, B₂.a_get (by rw [List.length_set]; exact hl j hj) (v := .bool (rg ds j).u) (by
      rw [rg_set hk]
      split
      · rename_i h; subst h; rfl
      · rfl)]
    exact ⟨rfl, rfl⟩
  dsimp only [kLst_ap, kL1_ap, wL_nil, kL2_ap, kCallB_ap]
  rw [bi_any]
  generalize hu : ((k :: l).any fun j => (rg ds j).u) = u at q ⊢
  dsimp
  rw [Due.a_subK hk hL B₂]
  dsimp
  refine Due.a_setK (i := 7) hk B₂ (by decide) (r' := (((rg ds k).sg lig).ssp 0).su u) rfl fun σ₃ B₃ => ?_
  dsimp
  have fin : ∀ σ₃ r, Due σ₀ σ₃ L (ds.set k r) → r = firstR w lig fresh (sumI cs) u (rg ds k) → W (execL C (d_law_joined.body.drop 17) [v0, some (.lst (plV (k :: l))), some (.int lig), some (.int fresh), v4, some (.bool (w == .ligature)), some (.lst (cs.map .int)), some (.int k), v8, v9, v10, v11, some (.ref L), v13, v14, v15, v16, none, none, none, none, none, none]) σ₃ (End Q) := fun σ₃ r B' er => by
    subst er
    have hl4 : (ds.set k (firstR w lig fresh (sumI cs) u (rg ds k))).length = ds.length := List.length_set
    exact p_joined_ret (C := C) (Q := Q) (k := k) (l := l) B' (by rw [hl4]; exact hn) (by rw [hl4]; exact hk) (by rw [hl4]; exact q)
  cases hw : w == SK.ligature with
  | false =>
    rw [hw] at fin
    exact fin _ _ B₃ (by rw [firstR, hw]; rfl)
  | true =>
    rw [hw] at fin
    dsimp
    rw [bi_sum]
    dsimp
    rw [Due.a_subK hk hL B₃]
    dsimp
    refine Due.a_tieK hk B₃ fun σ₄ B₄ => ?_
    exact fin _ _ B₄ (by rw [firstR, hw]; rfl)
end
end Mine.B
namespace Mine.B
set_option autoImplicit false
set_option linter.unusedVariables false
set_option linter.unusedSimpArgs false
set_option maxRecDepth 100000
set_option Elab.async false
set_option backward.defeqAttrib.useBackward true

theorem boundH_last {n : Nat} (h : 0 < n) (hn : n < LIM) : boundH n (.int (-1)) = some (n - 1) := rfl
theorem slice_last {vs : List PV} (h : 0 < vs.length) (hn : vs.length < LIM) : sliceV (.lst vs) .none (.int (-1)) = M.pure (.lst (vs.take (vs.length - 1))) := by
  simp only [sliceV]
  rw [sliceL_of (a := 0) (b := vs.length - 1) rfl (boundH_last h hn)]
  rfl
theorem slice_to {vs : List PV} {b : Nat} (h : b ≤ vs.length) (hn : vs.length < LIM) : sliceV (.lst vs) .none (.int b) = M.pure (.lst (vs.take b)) := by
  simp only [sliceV]
  rw [sliceL_of (a := 0) (b := b) rfl (boundH_nat h hn)]
  rfl
theorem p_law_part {n : Nat} {r : Rec} {a c : Int} {σ : St} {Q : PV → St → Prop} (q : Q (.int (a + partB r c)) σ) : W (callN D (n + 1) .law_part [recPV r, .int a, .int c]) σ Q := by
  refine W_callP (d := d_law_part) rfl rfl ?_
  dsimp [d_law_part]
  unfold partB at q
  by_cases h : 0 < r.part
  · rw [if_pos h] at q
    have e : builtinM .min [.int r.part, .int c] = M.pure (.int (if c < r.part then c else r.part)) := rfl
    simpa [h, e] using q
  · rw [if_neg h] at q
    simpa [h] using q

noncomputable def bhd (w : SK) (k : Nat) (l : List Nat) (id : Int) (rs ds : List Rec) : List Rec :=
  if w == .mark then ds else behindR (rg rs (lastOf k l)).id id (sumI ((cnts rs (k :: l)).take l.length)) (((cnts rs (k :: l))[l.length]?).getD 0) (rs.length - (lastOf k l + 1)) (lastOf k l + 1) ds

section
variable {n : Nat} {σ₀ σ : St} {Q : PV → St → Prop} {L : Nat} {rs ds : List Rec}
theorem p_joined_behind (B : Due σ₀ σ L ds) (hd : ds.length = rs.length) (hn : rs.length < 150) {k : Nat} {l : List Nat} (hl : ∀ j ∈ k :: l, j < rs.length) (hll : l.length < 150) {w : SK}
    (hw : (!(w == .mark)) = ((w == .ligature) || decide (cls (rg rs k).g = 1))) {lig fresh id : Int} (hid : id = if w == .ligature then fresh else 0) {cl : List Int} (hcl : cl.length < 150)
    (hsame : ∀ j, lastOf k l < j → (rg ds j).id = (rg rs j).id ∧ (rg ds j).part = (rg rs j).part) {v8 v9 v10 v11 v13 v14 v15 : Option PV}
    (q : ∀ σ', Ext σ₀ σ' → Q (.tup [.lst ((keepL rs.length k l).map fun j => recPV (rg ((bhd w k l id rs ds).set k (firstR w lig fresh (sumI (cnts rs (k :: l))) ((k :: l).any fun j => (rg (bhd w k l id rs ds) j).u) (rg (bhd w k l id rs ds) k))) j)), .bool (w == .ligature)]) σ') :
    W (execL (callN D (n + 1)) (d_law_joined.body.drop 10) [some (.lst (rs.map recPV)), some (.lst (plV (k :: l))), some (.int lig), some (.int fresh), some (.lst (.int (cls (rg rs k).g) :: cl.map .int)), some (.bool (w == .ligature)), some (.lst ((cnts rs (k :: l)).map .int)), some (.int k), some (.int (lastOf k l)), v9, v10, v11, some (.ref L), v13, v14, v15, none, none, none, none, none, none, none]) σ (End Q) := by
  have hL : rs.length < LIM := lim_small (by with_reducible exact O.a13 (by assumption))
  have hlast := last_lt hl
  have hcn : (cnts rs (k :: l)).length = l.length + 1 := by simp [cnts]
  have hcnL : (cnts rs (k :: l)).length < LIM := lim_small (by with_reducible exact O.a13o (by assumption) (by assumption))
  generalize hT : bhd w k l id rs ds = T at q
  simp only [d_law_joined, List.drop]
  simp [sub_row hlast hL, -Int.natCast_add]
  rw [show ((lastOf k l : Int) + 1) = ((lastOf k l + 1 : Nat) : Int) by with_reducible exact O.a12]
  obtain ⟨I, hI⟩ : ∃ I : Nat → Env → St → Prop, ∀ m ρ σ', I m ρ σ' ↔ ∃ (ds' : List Rec) (s : Nat), Due σ₀ σ' L ds' ∧ ds'.length = rs.length ∧ lastOf k l < s ∧ s ≤ rs.length ∧ m = rs.length - s ∧
      ρ = [some (.lst (rs.map recPV)), some (.lst (plV (k :: l))), some (.int lig), some (.int fresh), some (.lst (.int (cls (rg rs k).g) :: cl.map .int)), some (.bool (w == .ligature)), some (.lst ((cnts rs (k :: l)).map .int)), some (.int k), some (.int (lastOf k l)), v9, v10, v11, some (.ref L), some (.int s), v14, v15, some (.int (rg rs (lastOf k l)).id), none, none, none, none, none, none] ∧
      T = (if w == .mark then ds' else behindR (rg rs (lastOf k l)).id id (sumI ((cnts rs (k :: l)).take l.length)) (((cnts rs (k :: l))[l.length]?).getD 0) m s ds') ∧
      (∀ j, s ≤ j → (rg ds' j).id = (rg rs j).id ∧ (rg ds' j).part = (rg rs j).part) := ⟨_, fun _ _ _ => Iff.rfl⟩
  refine W_while I (fun m ρ σ' hi => ?_) (rs.length - (lastOf k l + 1)) _ _ (by unfold WH; with_reducible exact O.a6 (by assumption)) ((hI _ _ _).mpr ⟨ds, lastOf k l + 1, B, hd, by with_reducible exact O.a34e, by with_reducible exact O.a8 (by assumption), rfl, by simp, hT.symm, fun j hj => hsame j (by with_reducible exact O.a8r (by assumption))⟩)
  obtain ⟨ds', s, B', e1, h0, h1, rfl, rfl, h3, h4⟩ := (hI _ _ _).mp hi
  have fin : T = ds' → W (execL (callN D (n + 1)) (d_law_joined.body.drop 13) [some (.lst (rs.map recPV)), some (.lst (plV (k :: l))), some (.int lig), some (.int fresh), some (.lst (.int (cls (rg rs k).g) :: cl.map .int)), some (.bool (w == .ligature)), some (.lst ((cnts rs (k :: l)).map .int)), some (.int k), some (.int (lastOf k l)), v9, v10, v11, some (.ref L), some (.int s), v14, v15, some (.int (rg rs (lastOf k l)).id), none, none, none, none, none, none]) σ' (End Q) := fun e => by
    subst e
    exact p_joined_end B' (by with_reducible exact O.a13r (by assumption) (by assumption) (by assumption)) (fun j hj => by rw [e1]; exact hl j hj) hll (by rw [e1]; exact q)
  simp only [d_law_joined, List.drop] at fin
  have e0 : subV (.lst (.int (cls (rg rs k).g) :: cl.map .int)) (.int 0) = M.pure (.int (cls (rg rs k).g)) := sub_lst (k := 0) rfl (lim_small (by simp; with_reducible exact O.a13a (by assumption)))
  have hmark : (w == .mark) = true → T = ds' := fun e => by rw [h3, if_pos e]
  have hnon : (w == .mark) = false → T = behindR (rg rs (lastOf k l)).id id (sumI ((cnts rs (k :: l)).take l.length)) (((cnts rs (k :: l))[l.length]?).getD 0) (rs.length - s) s ds' := fun e => by rw [h3, if_neg (by simp [e])]
  have stop : ¬ (0 < (rg rs (lastOf k l)).id ∧ s < rs.length ∧ (rg rs s).id = (rg rs (lastOf k l)).id ∧ 0 < (rg rs s).part) → T = ds' := fun h => by
    cases hm : w == .mark with
    | true => exact hmark hm
    | false =>
      rw [hnon hm]
      cases hf : rs.length - s with
      | zero => rfl
      | succ f =>
        have hs : s < rs.length := by omega
        rw [behindR, if_neg]
        rw [(h4 s (Nat.le_refl _)).1, (h4 s (Nat.le_refl _)).2]
        simp
        intro h5 h6
        have := fun z => h ⟨h5, hs, h6, z⟩
        omega
  have main : W (evalE (callN D (n + 1)) (.band [.cmp .gt (.var 16) (.int 0), .cmp .lt (.var 13) (.callB .len [.var 0]), .cmp .eq (.sub (.sub (.var 0) (.var 13)) (.int 4)) (.var 16), .cmp .gt (.sub (.sub (.var 0) (.var 13)) (.int 5)) (.int 0)])
      [some (.lst (rs.map recPV)), some (.lst (plV (k :: l))), some (.int lig), some (.int fresh), some (.lst (.int (cls (rg rs k).g) :: cl.map .int)), some (.bool (w == .ligature)), some (.lst ((cnts rs (k :: l)).map .int)), some (.int k), some (.int (lastOf k l)), v9, v10, v11, some (.ref L), some (.int s), v14, v15, some (.int (rg rs (lastOf k l)).id), none, none, none, none, none, none]) σ' (fun t σ₁ => σ₁ = σ' ∧ t = .bool (decide (0 < (rg rs (lastOf k l)).id ∧ s < rs.length ∧ (rg rs s).id = (rg rs (lastOf k l)).id ∧ 0 < (rg rs s).part))) := by
    by_cases h5 : 0 < (rg rs (lastOf k l)).id
    · by_cases hs : s < rs.length
      · by_cases h6 : (rg rs s).id = (rg rs (lastOf k l)).id
        · simp [h5, hs, h6, sub_row hs hL]
        · simp [h5, hs, h6, sub_row hs hL]
      · simp [h5, hs]
    · simp [h5]
  have bor : W (evalE (callN D (n + 1)) (.bor [.var 5, .cmp .eq (.sub (.var 4) (.int 0)) (.int 1)])
      [some (.lst (rs.map recPV)), some (.lst (plV (k :: l))), some (.int lig), some (.int fresh), some (.lst (.int (cls (rg rs k).g) :: cl.map .int)), some (.bool (w == .ligature)), some (.lst ((cnts rs (k :: l)).map .int)), some (.int k), some (.int (lastOf k l)), v9, v10, v11, some (.ref L), some (.int s), v14, v15, some (.int (rg rs (lastOf k l)).id), none, none, none, none, none, none]) σ' (fun t σ₁ => σ₁ = σ' ∧ t = .bool ((w == .ligature) || decide (cls (rg rs k).g = 1))) := by
    cases hx : w == SK.ligature <;> simp [e0]
  rw [wE_and, wA_more]
  refine bor.mono fun t σ₁ ht => ?_
  obtain ⟨rfl, rfl⟩ := ht
  rw [kAnd_ap, tr_bool, ← hw]
  cases hm : w == SK.mark with
  | true => exact fin (hmark hm)
  | false =>
    rw [WT_nf, ← wE_and]
    refine main.mono fun t σ₁ ht => ?_
    obtain ⟨rfl, rfl⟩ := ht
    rw [tr_bool]
    by_cases hP : (0 < (rg rs (lastOf k l)).id ∧ s < rs.length ∧ (rg rs s).id = (rg rs (lastOf k l)).id ∧ 0 < (rg rs s).part)
    · rw [decide_eq_true hP]
      obtain ⟨h5, hs, h6, h7⟩ := hP
      rw [WT_true]
      refine ⟨by with_reducible exact O.a5 (by assumption), ?_⟩
      obtain ⟨f, hf⟩ : ∃ f, rs.length - s = f + 1 := ⟨rs.length - s - 1, by with_reducible exact O.a1 (by assumption)⟩
      have hT2 := hnon hm
      rw [hf, behindR, if_pos (by rw [(h4 s (Nat.le_refl _)).1, (h4 s (Nat.le_refl _)).2]; simp [h5, h6, h7])] at hT2
      generalize hcs : cnts rs (k :: l) = cs at *
      have hlc : cs[l.length]? = some ((cs[l.length]?).getD 0) := by
        rw [List.getElem?_eq_getElem (by omega)]; rfl
      have eS : sliceV (.lst (cs.map .int)) .none (.int (-1)) = M.pure (.lst ((cs.take l.length).map .int)) := by
        rw [slice_last (by simp; omega) (by simpa using hcnL), List.length_map, hcn, Nat.add_sub_cancel, ← List.map_take]
      have eL : subV (.lst (cs.map .int)) (.int (-1)) = M.pure (.int ((cs[l.length]?).getD 0)) := sub_last (by simp; omega) (by rw [List.length_map, hcn, Nat.add_sub_cancel, List.getElem?_map, hlc]; rfl) (by simpa using hcnL)
      have hi : W (evalE (callN D (n + 1)) (.ite (.var 5) (.var 3) (.int 0)) [some (.lst (rs.map recPV)), some (.lst (plV (k :: l))), some (.int lig), some (.int fresh), some (.lst (.int (cls (rg rs k).g) :: cl.map .int)), some (.bool (w == .ligature)), some (.lst (cs.map .int)), some (.int k), some (.int (lastOf k l)), v9, v10, v11, some (.ref L), some (.int s), v14, v15, some (.int (rg rs (lastOf k l)).id), none, none, none, none, none, none]) σ₁ (fun t σ₂ => σ₂ = σ₁ ∧ t = .int id) := by
        rw [hid]
        cases hx : w == SK.ligature <;> simp
      rw [W_cons, wS_setSlice, wE_list, wL_cons]
      refine hi.mono fun t σ₂ ht => ?_
      obtain ⟨rfl, rfl⟩ := ht
      dsimp
      rw [sub_row hs hL]
      dsimp
      rw [eS]
      dsimp only [W_pure, kL1_ap, wL_nil, kL2_ap, kCallB_ap]
      rw [bi_sum]
      dsimp
      rw [eL]
      dsimp
      refine p_law_part ?_
      have hs' : s < ds'.length := by with_reducible exact O.a9 (by assumption) (by assumption)
      dsimp
      rw [B'.a_sub hs' (by with_reducible exact O.a9r (by assumption) (by assumption))]
      dsimp
      refine B'.a_tie hs' fun σ₂ B₂ => ?_
      refine (hI _ _ _).mpr ⟨_, s + 1, B₂, by simpa using e1, by with_reducible exact O.a34d (by assumption), by with_reducible exact O.a8 (by assumption), by with_reducible exact O.a4, by simp, ?_, fun j hj => ?_⟩
      · rw [if_neg (by simp [hm]), hT2, hf, Nat.add_sub_cancel]
        congr 2
        unfold tieR partB
        rw [(h4 s (Nat.le_refl _)).2]
      · rw [rg_set hs', if_neg (by omega)]
        exact h4 j (by with_reducible exact O.a34a (by assumption))
    · rw [decide_eq_false hP]
      exact fin (stop hP)
end
end Mine.B
namespace Mine.B
set_option autoImplicit false
set_option linter.unusedVariables false
set_option linter.unusedSimpArgs false
set_option maxRecDepth 100000
set_option Elab.async false
set_option backward.defeqAttrib.useBackward true

structure DueN (σ₀ σ : St) (L : Nat) (ds : List Rec) (r : Rec) : Prop where
  due : Due σ₀ σ L ds
  len : σ.length = L + 1 + ds.length + 1
  top : σ[L + 1 + ds.length]? = some (some (.list (recItems r)))
section
variable {σ₀ σ : St} {L : Nat} {ds : List Rec} {r : Rec}
theorem Due.alloc (B : Due σ₀ σ L ds) (o : Option PObj) : Due σ₀ (σ ++ [o]) L ds := by
  have e : ∀ {j : Nat} {x}, σ[j]? = some x → (σ ++ [o])[j]? = some x := fun h => by rw [List.getElem?_append_left (live_lt h)]; exact h
  exact ⟨B.ext.alloc, B.le, e B.row, fun k hk => e (B.item k hk)⟩
theorem Due.new (B : Due σ₀ σ L ds) (h : σ.length = L + 1 + ds.length) (r : Rec) : DueN σ₀ (σ ++ [some (.list (recItems r))]) L ds r :=
  ⟨B.alloc _, by simp [h], by rw [← h]; simp⟩
theorem DueN.upd (B : DueN σ₀ σ L ds r) (r' : Rec) : DueN σ₀ (σ.set (L + 1 + ds.length) (some (.list (recItems r')))) L ds r' := by
  have hlt := live_lt B.top
  have := B.due.le
  refine ⟨⟨B.due.ext.set (by omega), B.due.le, ?_, fun j hj => ?_⟩, by rw [List.length_set]; exact B.len, by rw [set_self hlt]⟩
  · rw [set_other (by with_reducible exact O.a11')]; exact B.due.row
  · rw [set_other (by with_reducible exact O.a11s (by assumption))]; exact B.due.item j hj
theorem DueN.a_get (B : DueN σ₀ σ L ds r) {i : Nat} {v : PV} {Q : PV → St → Prop} (hi : (recItems r)[i]? = some v) : W (subV (.ref (L + 1 + ds.length)) (.int i)) σ Q ↔ Q v σ :=
  W_sub_ref B.top hi (by rw [recItems_len]; decide)
theorem DueN.a_set (B : DueN σ₀ σ L ds r) {i : Nat} {v : PV} {r' : Rec} {Q : Unit → St → Prop} (hi : i < 9) (hr : (recItems r).set i v = recItems r') (q : ∀ σ', DueN σ₀ σ' L ds r' → Q () σ') : W (setSubV (.ref (L + 1 + ds.length)) (.int i) v) σ Q := by
  rw [W_setSub B.top (by rw [recItems_len]; exact hi) (by rw [recItems_len]; decide), hr]
  exact q _ (B.upd r')
theorem DueN.a_tie (B : DueN σ₀ σ L ds r) {id part cnt : Int} {Q : Unit → St → Prop} (q : ∀ σ', DueN σ₀ σ' L ds { r with id := id, part := part, cnt := cnt } → Q () σ') : W (setSliceV (.ref (L + 1 + ds.length)) (.int 4) (.int 7) (.lst [.int id, .int part, .int cnt])) σ Q := by
  have := (W_setSlice (Q := Q) (a := 4) (b := 7) (ys := [.int id, .int part, .int cnt]) B.top (by decide) (by rw [recItems_len]; decide) (lim_small (by rw [recItems_len]; simp))).mpr (q _ (B.upd { r with id := id, part := part, cnt := cnt }))
  exact this
theorem rg_push {j : Nat} : rg (ds ++ [r]) j = if j < ds.length then rg ds j else if j = ds.length then r else rec0 := by
  unfold rg
  by_cases h : j < ds.length
  · rw [if_pos h, List.getElem?_append_left h]
  · rw [if_neg h, List.getElem?_append_right (by omega)]
    by_cases h2 : j = ds.length
    · rw [if_pos h2, h2, Nat.sub_self]; rfl
    · rw [if_neg h2]
      rw [List.getElem?_eq_none (by simp; omega)]; rfl
theorem refs_push {n : Nat} : refs L (n + 1) = refs L n ++ [.ref (L + 1 + n)] := by
  unfold refs
  rw [List.range_succ, List.map_append]; rfl
theorem DueN.a_push (B : DueN σ₀ σ L ds r) (hn : ds.length < LIM) {Q : PV → St → Prop} (q : ∀ σ', Due σ₀ σ' L (ds ++ [r]) → σ'.length = L + 1 + (ds.length + 1) → Q .none σ') : W (methV .append (.ref L) [.ref (L + 1 + ds.length)]) σ Q := by
  have hlt := live_lt B.due.row
  have hle := B.due.le
  have h3 := B.len
  rw [W_append B.due.row (by simpa using hn)]
  refine q _ ⟨B.due.ext.set hle, hle, ?_, fun j hj => ?_⟩ (by rw [List.length_set, B.len]; omega)
  · rw [set_self hlt, List.length_append, List.length_singleton, refs_push]
  · rw [set_other (by with_reducible exact O.a11), rg_push]
    rw [List.length_append, List.length_singleton] at hj
    by_cases h : j < ds.length
    · rw [if_pos h]; exact B.due.item j h
    · have : j = ds.length := by with_reducible exact O.a7' (by assumption) (by assumption)
      subst this
      rw [if_neg h, if_pos rfl]; exact B.top
theorem DueN.get (B : DueN σ₀ σ L ds r) {a : Nat} (ha : L + 1 + ds.length = a) {i : Nat} {v : PV} {Q : PV → St → Prop} (hi : (recItems r)[i]? = some v) : W (subV (.ref a) (.int i)) σ Q ↔ Q v σ := by subst ha; exact B.a_get hi
theorem DueN.put (B : DueN σ₀ σ L ds r) {a : Nat} (ha : L + 1 + ds.length = a) {i : Nat} {v : PV} {r' : Rec} {Q : Unit → St → Prop} (hi : i < 9) (hr : (recItems r).set i v = recItems r') (q : ∀ σ', DueN σ₀ σ' L ds r' → Q () σ') : W (setSubV (.ref a) (.int i) v) σ Q := by subst ha; exact B.a_set hi hr q
theorem DueN.tie (B : DueN σ₀ σ L ds r) {a : Nat} (ha : L + 1 + ds.length = a) {id part cnt : Int} {Q : Unit → St → Prop} (q : ∀ σ', DueN σ₀ σ' L ds (((r.sid id).spt part).scn cnt) → Q () σ') : W (setSliceV (.ref a) (.int 4) (.int 7) (.lst [.int id, .int part, .int cnt])) σ Q := by subst ha; exact B.a_tie q
theorem DueN.push (B : DueN σ₀ σ L ds r) {a : Nat} (ha : L + 1 + ds.length = a) (hn : ds.length < LIM) {Q : PV → St → Prop} (q : ∀ σ', Due σ₀ σ' L (ds ++ [r]) → σ'.length = L + 1 + (ds.length + 1) → Q .none σ') : W (methV .append (.ref L) [.ref a]) σ Q := by subst ha; exact B.a_push hn q
noncomputable def envD (rs : List Rec) (k : Nat) (l : List Nat) (lig fresh : Int) (cl : List Int) (w : SK) (least : Int) (lo up L : Nat) (v13 v14 v15 : Option PV) : Env :=
  [some (.lst (rs.map recPV)), some (.lst (plV (k :: l))), some (.int lig), some (.int fresh), some (.lst (.int (cls (rg rs k).g) :: cl.map .int)), some (.bool (w == .ligature)), some (.lst ((cnts rs (k :: l)).map .int)), some (.int k), some (.int (lastOf k l)), some (.int least), some (.int lo), some (.int up), some (.ref L), v13, v14, v15, none, none, none, none, none, none, none]
end

theorem setC_eq {r : Rec} {x : Int} : setC x r = { r with c := x, u := r.u && decide (r.c = x) } := by
  unfold setC
  by_cases h : r.c = x
  · subst h; simp
  · simp [h]
theorem turn_of {m : M (Fl × Env)} {σ : St} {I : Env → St → Prop} {Q : Fl × Env → St → Prop} (h : W m σ fun p σ₂ => p.1 = .next ∧ I p.2 σ₂) : W m σ (Turn I Q) := h.mono fun p σ₂ h => by
  obtain ⟨fl, ρ⟩ := p
  obtain ⟨rfl, h2⟩ := h
  exact h2
section
variable {n : Nat} {σ : St} {Q : PV → St → Prop} {rs : List Rec}
theorem p_joined_due (hn : rs.length < 150) {k : Nat} {l : List Nat} (hl : ∀ j ∈ k :: l, j < rs.length) (hll : l.length < 150) (hs : (k :: l).Pairwise (· < ·)) {w : SK}
    (hw : (!(w == .mark)) = ((w == .ligature) || decide (cls (rg rs k).g = 1))) {lig fresh id : Int} (hid : id = if w == .ligature then fresh else 0) {cl : List Int} (hcl : cl.length < 150) {lo up : Nat} {least : Int}
    (q : ∀ σ', Ext σ σ' → Q (.tup [.lst ((keepL rs.length k l).map fun j => recPV (rg ((bhd w k l id rs ((List.range rs.length).map (dueF w id k l rs lo up least))).set k (firstR w lig fresh (sumI (cnts rs (k :: l))) ((k :: l).any fun j => (rg (bhd w k l id rs ((List.range rs.length).map (dueF w id k l rs lo up least))) j).u) (rg (bhd w k l id rs ((List.range rs.length).map (dueF w id k l rs lo up least))) k))) j)), .bool (w == .ligature)]) σ') :
    W (execL (callN D (n + 1)) (d_law_joined.body.drop 8) [some (.lst (rs.map recPV)), some (.lst (plV (k :: l))), some (.int lig), some (.int fresh), some (.lst (.int (cls (rg rs k).g) :: cl.map .int)), some (.bool (w == .ligature)), some (.lst ((cnts rs (k :: l)).map .int)), some (.int k), some (.int (lastOf k l)), some (.int least), some (.int lo), some (.int up), none, none, none, none, none, none, none, none, none, none, none]) σ (End Q) := by
  have hL : rs.length < LIM := lim_small (by with_reducible exact O.a13 (by assumption))
  have hcn : (cnts rs (k :: l)).length = l.length + 1 := by rw [cnts, List.length_map]; rfl
  have hcnL : (cnts rs (k :: l)).length < LIM := lim_small (by with_reducible exact O.a13o (by assumption) (by assumption))
  generalize hf : dueF w id k l rs lo up least = f at q
  dsimp only [d_law_joined, List.drop]
  dsimp
  rw [List.length_map, bi_range1 (fits_small (by with_reducible exact O.a14c) (by with_reducible exact O.a14b (by assumption)))]
  dsimp
  obtain ⟨I, hI⟩ : ∃ I : Nat → Env → St → Prop, ∀ i ρ σ', I i ρ σ' ↔ ∃ (v13 v14 v15 : Option PV), i ≤ rs.length ∧ Due σ σ' σ.length ((List.range i).map f) ∧ σ'.length = σ.length + 1 + i ∧
      ρ = envD rs k l lig fresh cl w least lo up σ.length v13 v14 v15 := ⟨_, fun _ _ _ => Iff.rfl⟩
  refine W_forL I _ 0 _ _ (fun i ρ σ' t ht hi => ?_) (fun ρ σ' hi => ?_) ((hI _ _ _).mpr ⟨none, none, none, Nat.zero_le _, ⟨Ext.refl.alloc, Nat.le_refl _, by simp [refs], fun j hj => by simp at hj⟩, by simp, rfl⟩)
  · rw [Nat.zero_add] at hi ⊢
    obtain ⟨v13, v14, v15, g1, B, g2, rfl⟩ := (hI _ _ _).mp hi
    obtain ⟨rfl, hir⟩ := rangeL_at ht
    rw [Int.zero_add]
    have hir : i < rs.length := by with_reducible exact O.a28p (by assumption)
    have B0 := B.new (by simpa using g2) (rg rs i)
    have el : σ.length + 1 + ((List.range i).map f).length = σ.length + 1 + i := by rw [List.length_map, List.length_range]
    -- the end of the turn
    have push : ∀ σ₂ v15, DueN σ σ₂ σ.length ((List.range i).map f) (f i) → W (execL (callN D (n + 1)) [(.expr (.meth (.var 12) .append [(.var 14)]))] (envD rs k l lig fresh cl w least lo up σ.length (some (.int i)) (some (.ref (σ.length + 1 + i))) v15)) σ₂ (fun p σ₂ => p.1 = .next ∧ I (i + 1) p.2 σ₂) := fun σ₂ v15 B₂ => by
      dsimp [envD]
      rw [W_append_k B₂.due.row]
      dsimp
      refine B₂.push el (by rw [List.length_map, List.length_range]; with_reducible exact O.a34h (by assumption) (by assumption)) fun σ₃ B₃ e3 => ⟨rfl, (hI _ _ _).mpr ⟨_, _, _, hir, ?_, by rw [e3, List.length_map, List.length_range], rfl⟩⟩
      rw [List.range_succ, List.map_append]
      exact B₃
    have next : ∀ σ₁, DueN σ σ₁ σ.length ((List.range i).map f) (if lo ≤ i ∧ i < up then setC least (rg rs i) else rg rs i) → W (execL (callN D (n + 1)) [(.assign 15 (.callB .len [(.compIf (.var 20) 20 (.var 1) (.cmp .le (.var 20) (.var 13)))])),
      (.ifs (.band [(.cmp2 .lt .lt (.var 7) (.var 13) (.var 8)), (.cmp .notin (.var 13) (.var 1)), (.var 5)]) [(.setSlice (.var 14) (.int 4) (.int 7) (.list [(.var 3), (.callF .law_part [(.sub (.var 0) (.var 13)), (.callB .sum [(.slice (.var 6) .none (.bin .sub (.var 15) (.int 1)))]), (.sub (.var 6) (.bin .sub (.var 15) (.int 1)))]), (.int 0)]))] []),
      (.expr (.meth (.var 12) .append [(.var 14)]))] (envD rs k l lig fresh cl w least lo up σ.length (some (.int i)) (some (.ref (σ.length + 1 + i))) v15)) σ₁ (fun p σ₂ => p.1 = .next ∧ I (i + 1) p.2 σ₂) := fun σ₁ B₁ => by
      generalize hr : (if lo ≤ i ∧ i < up then setC least (rg rs i) else rg rs i) = r at B₁
      have plain : ¬ ((w == SK.ligature) = true ∧ k < i ∧ i < lastOf k l ∧ i ∉ k :: l) → DueN σ σ₁ σ.length ((List.range i).map f) (f i) := fun h => by
        have : f i = r := by
          rw [← hf]
          unfold dueF
          dsimp only
          rw [if_neg h, hr]
        rw [this]; exact B₁
      have hdl : doneN (k :: l) i ≤ l.length + 1 := List.length_filter_le _ _
      dsimp [envD]
      refine fits_in (by rw [pl_len]; exact lim_small (show l.length + 1 < 1000 by with_reducible exact O.a13a (by assumption))) (W_mapIf_pl (b := fun j => decide (j ≤ i)) (g := fun j => .int j) (fun j hj => ?_) (fun j hj hb => ⟨rfl, rfl⟩) ?_)
      · exact ⟨congrArg PV.bool (decide_eq_decide.mpr Int.ofNat_le), rfl⟩
      dsimp only [kLst_ap, kL1_ap, wL_nil, kL2_ap, kCallB_ap, bi_len_lst, W_pure]
      rw [List.length_map, show ((k :: l).filter fun j => decide (j ≤ i)).length = doneN (k :: l) i from rfl]
      dsimp
      by_cases h4 : (w == SK.ligature) = true ∧ k < i ∧ i < lastOf k l ∧ i ∉ k :: l
      · obtain ⟨h4, h1, h2, h3⟩ := h4
        refine WT_t (decide_eq_true (Int.ofNat_lt.mpr h1)) ?_
        refine WT_t (decide_eq_true (Int.ofNat_lt.mpr h2)) ?_
        rw [cv_notin]
        refine WT_t (by rw [decide_eq_false h3]; rfl) ?_
        dsimp
        refine WT_t h4 ?_
        have hd1 : 0 < doneN (k :: l) i := by rw [doneN_cons (by with_reducible exact O.a34b (by assumption))]; with_reducible exact O.a34f
        generalize hcs : (cnts rs (k :: l)) = cs at hcn hcnL
        have hlc : cs[doneN (k :: l) i - 1]? = some ((cs[doneN (k :: l) i - 1]?).getD 0) := by
          rw [List.getElem?_eq_getElem (by omega)]; rfl
        have ei : ((doneN (k :: l) i : Int) - 1) = ((doneN (k :: l) i - 1 : Nat) : Int) := by with_reducible exact O.a12b (by assumption)
        rw [sub_row hir hL]
        dsimp
        rw [ei, slice_to (by rw [List.length_map]; omega) (by rw [List.length_map]; exact hcnL)]
        dsimp only [W_pure, kL1_ap, wL_nil, kL2_ap, kCallB_ap]
        rw [← List.map_take, bi_sum]
        dsimp
        rw [ei, sub_lst (by rw [List.getElem?_map, hlc]; rfl) (by rw [List.length_map]; exact hcnL)]
        dsimp
        refine p_law_part ?_
        dsimp
        refine B₁.tie el fun σ₃ B₃ => ?_
        have ef : f i = ((r.sid fresh).spt (sumI (cs.take (doneN (k :: l) i - 1)) + partB (rg rs i) ((cs[doneN (k :: l) i - 1]?).getD 0))).scn 0 := by
          have ep : partB r ((cs[doneN (k :: l) i - 1]?).getD 0) = partB (rg rs i) ((cs[doneN (k :: l) i - 1]?).getD 0) := by
            unfold partB
            rw [← hr]
            split
            · rw [setC_same.2.2]
            · rfl
          rw [← hf, ← ep, hid, if_pos h4]
          unfold dueF
          dsimp only
          rw [if_pos ⟨h4, h1, h2, h3⟩, hr, hcs]
          rfl
        rw [← ef] at B₃
        have := push σ₃ (some (.int (doneN (k :: l) i))) B₃
        unfold envD at this
        rw [hcs] at this
        exact this
      · have h5 := push σ₁ (some (.int (doneN (k :: l) i))) (plain h4)
        by_cases h1 : k < i
        · refine WT_t (decide_eq_true (Int.ofNat_lt.mpr h1)) ?_
          by_cases h2 : i < lastOf k l
          · refine WT_t (decide_eq_true (Int.ofNat_lt.mpr h2)) ?_
            rw [cv_notin]
            by_cases h3 : i ∈ k :: l
            · have e3 : (!decide (i ∈ k :: l)) = false := by rw [decide_eq_true h3]; rfl
              exact WT_f e3 (WT_f e3 h5)
            · refine WT_t (by rw [decide_eq_false h3]; rfl) ?_
              dsimp
              have e4 := Bool.eq_false_iff.mpr fun z => h4 ⟨z, h1, h2, h3⟩
              exact WT_f e4 h5
          · have e2 := decide_eq_false (fun z => h2 (Int.ofNat_lt.mp z))
            exact WT_f e2 (WT_f e2 h5)
        · exact WT_f (decide_eq_false (fun z => h1 (Int.ofNat_lt.mp z))) h5
    dsimp [envD]
    rw [sub_row hir hL]
    refine ⟨recItems (rg rs i), rfl, ?_⟩
    rw [g2]
    dsimp
    cases h1 : decide ((lo : Int) ≤ (i : Int)) with
    | false => exact turn_of (next _ (by rw [if_neg (fun z => by have := of_decide_eq_false h1; omega)]; exact B0))
    | true =>
      dsimp
      cases h2 : decide ((i : Int) < (up : Int)) with
      | false => exact turn_of (next _ (by rw [if_neg (fun z => by have := of_decide_eq_false h2; omega)]; exact B0))
      | true =>
        rw [if_pos ⟨by have := of_decide_eq_true h1; omega, by have := of_decide_eq_true h2; omega⟩, setC_eq] at next
        dsimp
        rw [show (7 : Int) = ((7 : Nat) : Int) from rfl, show (1 : Int) = ((1 : Nat) : Int) from rfl, B0.get el (v := .bool (rg rs i).u) rfl]
        dsimp
        cases hu : (rg rs i).u with
        | true =>
          rw [hu] at next
          dsimp
          rw [show (1 : Int) = ((1 : Nat) : Int) from rfl, B0.get el (v := .int (rg rs i).c) rfl]
          dsimp
          rw [cv_eq]
          dsimp
          refine B0.put el (i := 7) (r' := (rg rs i).su (decide ((rg rs i).c = least))) (by decide) rfl fun σ₂ B₂ => ?_
          dsimp
          refine B₂.put el (i := 1) (r' := ((rg rs i).su (decide ((rg rs i).c = least))).sc least) (by decide) rfl fun σ₃ B₃ => ?_
          exact turn_of (next σ₃ B₃)
        | false =>
          rw [hu] at next
          dsimp
          refine B0.put el (i := 7) (r' := (rg rs i).su false) (by decide) rfl fun σ₂ B₂ => ?_
          dsimp
          refine B₂.put el (i := 1) (r' := ((rg rs i).su false).sc least) (by decide) rfl fun σ₃ B₃ => ?_
          exact turn_of (next σ₃ B₃)
  · rw [Nat.zero_add, rangeL_length] at hi
    obtain ⟨v13, v14, v15, g1, B, g2, rfl⟩ := (hI _ _ _).mp hi
    have en : ((rs.length : Int) - 0).toNat = rs.length := by with_reducible exact O.a21
    rw [en] at B
    refine p_joined_behind (n := n) (Q := Q) (cl := cl) (fresh := fresh) (lig := lig) B (by rw [List.length_map, List.length_range]) hn hl hll hw hid hcl (fun j hj => ?_) (v8 := none) (v9 := some (.int least)) (v10 := some (.int lo)) (v11 := some (.int up)) (v13 := v13) (v14 := v14) (v15 := v15) q
    by_cases hjn : j < rs.length
    · rw [rg_map hjn, ← hf]
      unfold dueF
      dsimp only
      rw [if_neg (by omega)]
      split
      · exact ⟨setC_same.2.1, setC_same.2.2⟩
      · exact ⟨rfl, rfl⟩
    · unfold rg
      rw [List.getElem?_eq_none (by rw [List.length_map, List.length_range]; omega), List.getElem?_eq_none (by omega)]
      exact ⟨rfl, rfl⟩
end
end Mine.B
namespace Mine.B
set_option autoImplicit false
set_option linter.unusedVariables false
set_option linter.unusedSimpArgs false
set_option maxRecDepth 100000
set_option Elab.async false
set_option backward.defeqAttrib.useBackward true

section
variable {n : Nat} {σ : St} {Q : PV → St → Prop} {rs : List Rec}
theorem p_joined_span {C : Fn → List PV → M PV} (hn : rs.length < 150) {k la : Nat} (hk : k < rs.length) (hlast : la < rs.length) {v1 v2 v3 v4 v5 v6 v9 : Option PV} {QS : Fl × Env → St → Prop}
    (q : W (execL C (d_law_joined.body.drop 8) [some (.lst (rs.map recPV)), v1, v2, v3, v4, v5, v6, some (.int k), some (.int la), v9, some (.int (wDn (rg rs k).c rs k)), some (.int (wUp (rg rs la).c rs (rs.length - (la + 1)) (la + 1))), none, none, none, none, none, none, none, none, none, none, none]) σ QS) :
    W (execL C (d_law_joined.body.drop 6) [some (.lst (rs.map recPV)), v1, v2, v3, v4, v5, v6, some (.int k), some (.int la), v9, some (.int k), some (.int (la + 1)), none, none, none, none, none, none, none, none, none, none, none]) σ QS := by
  have hL : rs.length < LIM := lim_small (by with_reducible exact O.a13 (by assumption))
  simp only [d_law_joined, List.drop] at q ⊢
  generalize [PS.assign 12 (.mlist []), _, _, _, _, _, _, _, _, _] = tl at q ⊢
  rw [W_cons, wS_whiles]
  obtain ⟨J, hJ⟩ : ∃ J : Nat → Env → St → Prop, ∀ m ρ σ'', J m ρ σ'' ↔ σ'' = σ ∧ m ≤ k ∧ ρ = [some (.lst (rs.map recPV)), v1, v2, v3, v4, v5, v6, some (.int k), some (.int la), v9, some (.int m), some (.int (la + 1)), none, none, none, none, none, none, none, none, none, none, none] ∧
      wDn (rg rs k).c rs k = wDn (rg rs k).c rs m := ⟨_, fun _ _ _ => Iff.rfl⟩
  refine W_while J (fun m ρ σ'' hi => ?_) k _ _ (by unfold WH; with_reducible exact O.a13p (by assumption) (by assumption)) ((hJ _ _ _).mpr ⟨rfl, Nat.le_refl _, rfl, rfl⟩)
  obtain ⟨rfl, g1, rfl, g3⟩ := (hJ _ _ _).mp hi
  rw [g3] at q
  have second : wDn (rg rs k).c rs m = m → W (execL C (PS.whiles (.band [(.cmp .lt (.var 11) (.callB .len [(.var 0)])), (.cmp .eq (.sub (.sub (.var 0) (.var 11)) (.int 1)) (.sub (.sub (.var 0) (.var 8)) (.int 1)))]) [(.assign 11 (.bin .add (.var 11) (.int 1)))] :: tl) [some (.lst (rs.map recPV)), v1, v2, v3, v4, v5, v6, some (.int k), some (.int la), v9, some (.int m), some (.int (la + 1)), none, none, none, none, none, none, none, none, none, none, none]) σ'' QS := fun em => by
    rw [em] at q
    rw [W_cons, wS_whiles]
    rw [show ((la : Int) + 1) = ((la + 1 : Nat) : Int) by with_reducible exact O.a12]
    obtain ⟨I, hI⟩ : ∃ I : Nat → Env → St → Prop, ∀ x ρ σ', I x ρ σ' ↔ σ' = σ'' ∧ ∃ (h : Nat), la + 1 ≤ h ∧ h ≤ rs.length ∧ x = rs.length - h ∧ ρ = [some (.lst (rs.map recPV)), v1, v2, v3, v4, v5, v6, some (.int k), some (.int la), v9, some (.int m), some (.int h), none, none, none, none, none, none, none, none, none, none, none] ∧
      wUp (rg rs la).c rs (rs.length - (la + 1)) (la + 1) = wUp (rg rs la).c rs x h := ⟨_, fun _ _ _ => Iff.rfl⟩
    refine W_while I (fun x ρ σ' hi => ?_) (rs.length - (la + 1)) _ _ (by unfold WH; with_reducible exact O.a6 (by assumption)) ((hI _ _ _).mpr ⟨rfl, la + 1, Nat.le_refl _, hlast, rfl, rfl, rfl⟩)
    obtain ⟨rfl, h, h1, h2, rfl, rfl, h4⟩ := (hI _ _ _).mp hi
    rw [h4] at q
    by_cases hlt : h < rs.length
    · obtain ⟨f, hf⟩ : ∃ f, rs.length - h = f + 1 := ⟨rs.length - h - 1, by with_reducible exact O.a1 (by assumption)⟩
      rw [hf, wUp] at h4 q
      simp [hlt, sub_row hlt hL, sub_row hlast hL]
      by_cases hc : (rg rs h).c = (rg rs la).c
      · rw [if_pos hc] at h4 q
        simp [hc]
        exact ⟨by with_reducible exact O.a5 (by assumption), (hI _ _ _).mpr ⟨rfl, h + 1, by with_reducible exact O.a34 (by assumption), by with_reducible exact O.a8 (by assumption), by with_reducible exact O.a4, rfl, by rw [h4]; congr 1; with_reducible exact O.a2 (by assumption)⟩⟩
      · rw [if_neg hc] at q
        simpa [hc] using q
    · have e1 : h = rs.length := by with_reducible exact O.a7 (by assumption) (by assumption)
      subst e1
      rw [Nat.sub_self, wUp] at q
      simpa using q
  cases m with
  | zero => simpa using second rfl
  | succ m =>
    have hm : m < rs.length := by omega
    rw [wDn] at g3 second
    have ep : ((m + 1 : Nat) : Int) - 1 = (m : Int) := by with_reducible exact O.a12a
    have egt : (0 : Int) < ((m + 1 : Nat) : Int) := by with_reducible exact O.a14e
    simp [-Int.natCast_add, ep, sub_row hm hL, sub_row hk hL, egt]
    by_cases hc : (rg rs m).c = (rg rs k).c
    · rw [if_pos hc] at g3
      simp [-Int.natCast_add, hc, ep]
      exact (hJ _ _ _).mpr ⟨rfl, by with_reducible exact O.a34a (by assumption), rfl, g3⟩
    · rw [if_neg hc] at second
      simpa [-Int.natCast_add, hc] using second rfl

theorem pvsEq_ints : ∀ {xs ys : List Int}, pvsEq (xs.map .int) (ys.map .int) = some (decide (xs = ys))
  | [], [] => rfl
  | [], y :: ys => rfl
  | x :: xs, [] => rfl
  | x :: xs, y :: ys => by
    have : pvsEq ((x :: xs).map PV.int) ((y :: ys).map .int) = and2 (pvEq (.int x) (.int y)) (pvsEq (xs.map PV.int) (ys.map .int)) := rfl
    rw [this, pvsEq_ints]
    have e : pvEq (.int x) (.int y) = some (x == y) := rfl
    rw [e]
    show some ((x == y) && decide (xs = ys)) = _
    simp [eqb_int, Bool.decide_and]
theorem cv_eq_ints {xs ys : List Int} : cmpV .eq (.lst (xs.map .int)) (.lst (ys.map .int)) = some (decide (xs = ys)) := by
  have e1 : flatN 6 (.lst (xs.map .int)) = true := flat_ints 5 (fun x => x) xs
  have e2 : flatN 6 (.lst (ys.map .int)) = true := flat_ints 5 (fun x => x) ys
  have : cmpV .eq (.lst (xs.map .int)) (.lst (ys.map .int)) = onTrue (flatN 6 (.lst (xs.map .int)) && flatN 6 (.lst (ys.map .int))) (pvsEq (xs.map .int) (ys.map .int)) := rfl
  rw [this, e1, e2, pvsEq_ints]; rfl
theorem cv_in13 {c : Int} : cmpV .isin (.int c) (.tup [.int 1, .int 3]) = some (decide (c = 1) || decide (c = 3)) := by
  have : cmpV .isin (.int c) (.tup [.int 1, .int 3]) = some ((1 == c) || ((3 == c) || false)) := rfl
  rw [this, eqb_int, eqb_int, Bool.or_false]
  congr 2
  · simp only [eq_comm]
  · simp only [eq_comm]
theorem slice_from1 {v : PV} {vs : List PV} (hn : vs.length + 1 < LIM) : sliceV (.lst (v :: vs)) (.int 1) .none = M.pure (.lst vs) := by
  have := sliceL_of (vs := v :: vs) (a := 1) (b := vs.length + 1) (x := .int 1) (y := .none) (boundL_nat (k := 1) (by simp) (by simpa using hn)) rfl
  simp only [sliceV]
  rw [this]
  simp
  rfl
theorem bv_rep {m : Nat} (hm : m < 1000) : binV .mul (.lst [.int 3]) (.int m) = some (.lst ((List.replicate m (3 : Int)).map .int)) := by
  have : binV .mul (.lst [.int 3]) (.int m) = if 0 ≤ (m : Int) ∧ (m : Int) < 1000 then some (.lst (List.replicate (m : Int).toNat (.int 3))) else none := rfl
  rw [this, if_pos (by with_reducible exact O.a14j (by assumption))]
  simp
theorem wayR_whole {k : Nat} {l : List Nat} : (!((decide (cls (rg rs k).g = 1) || decide (cls (rg rs k).g = 3)) && decide ((l.map fun j => cls (rg rs j).g) = List.replicate l.length 3))) = (wayR k l rs == .ligature) := by
  have e : decide ((l.map fun j => cls (rg rs j).g) = List.replicate l.length 3) = (l.map fun j => (rg rs j).g).all (fun x => decide (cls x = 3)) := by
    rw [Bool.eq_iff_iff]
    simp [List.eq_replicate_iff]
  rw [e]
  unfold wayR wayK
  cases (l.map fun j => (rg rs j).g).all (fun x => decide (cls x = 3)) with
  | false => simp
  | true =>
    rcases cls_cases (rg rs k).g with h | h | h | h <;> simp [h] <;> decide
theorem wayR_mark {k : Nat} {l : List Nat} : (!(wayR k l rs == .mark)) = ((wayR k l rs == .ligature) || decide (cls (rg rs k).g = 1)) := by
  unfold wayR wayK
  cases (l.map fun j => (rg rs j).g).all (fun x => decide (cls x = 3)) with
  | false => simp
  | true =>
    rcases cls_cases (rg rs k).g with h | h | h | h <;> simp [h] <;> decide
theorem firstR_id {w : SK} {lig ll total : Int} {u : Bool} {r : Rec} : firstR w lig (ll + 1) total u r = firstR w lig (idOf w ll) total u r := by
  unfold firstR idOf
  cases h : w == SK.ligature <;> simp
theorem lawJ_eq {w : SK} {k : Nat} {l : List Nat} {lig ll : Int} : lawJ w (idOf w ll) k l lig rs = (bhd w k l (idOf w ll) rs (dueL w (idOf w ll) k l rs)).set k (firstR w lig (ll + 1) (sumI (cnts rs (k :: l))) ((k :: l).any fun j => (rg (bhd w k l (idOf w ll) rs (dueL w (idOf w ll) k l rs)) j).u) (rg (bhd w k l (idOf w ll) rs (dueL w (idOf w ll) k l rs)) k)) := by
  rw [firstR_id]; rfl

theorem p_law_joined (hn : rs.length < 150) {k : Nat} {l : List Nat} (hl : ∀ j ∈ k :: l, j < rs.length) (hll : l.length < 150) (hs : (k :: l).Pairwise (· < ·)) {lig ll : Int}
    (q : ∀ σ', Ext σ σ' → Q (.tup [.lst ((keepL rs.length k l).map fun j => recPV (rg (lawJ (wayR k l rs) (idOf (wayR k l rs) ll) k l lig rs) j)), .bool (wayR k l rs == .ligature)]) σ') :
    W (callN D (n + 2) .law_joined [.lst (rs.map recPV), .lst (plV (k :: l)), .int lig, .int (ll + 1)]) σ Q := by
  have hL : rs.length < LIM := lim_small (by with_reducible exact O.a13 (by assumption))
  have hl1 : l.length + 1 < LIM := lim_small (by with_reducible exact O.a13a (by assumption))
  have hlast := last_lt hl
  have hk := hl k (.head _)
  refine W_callD (ρ := [some (.lst (rs.map recPV)), some (.lst (plV (k :: l))), some (.int lig), some (.int (ll + 1)), none, none, none, none, none, none, none, none, none, none, none, none, none, none, none, none, none, none, none]) rfl rfl ?_
  rw [lawJ_eq] at q
  have span := p_joined_span (C := callN D (n + 1)) (σ := σ) (k := k) (la := lastOf k l) (v1 := some (.lst (plV (k :: l)))) (v2 := some (.int lig)) (v3 := some (.int (ll + 1))) (v4 := some (.lst (.int (cls (rg rs k).g) :: (l.map fun j => cls (rg rs j).g).map .int))) (v5 := some (.bool (wayR k l rs == .ligature))) (v6 := some (.lst ((cnts rs (k :: l)).map .int))) (v9 := some (.int (leastC k (lastOf k l + 1) rs))) (QS := End Q) hn hk hlast
    (p_joined_due hn hl hll hs wayR_mark (id := idOf (wayR k l rs) ll) rfl (by simpa using hll) q)
  obtain ⟨tl, htl⟩ : ∃ tl, tl = d_law_joined.body.drop 6 := ⟨_, rfl⟩
  rw [← htl] at span
  have hb : (D .law_joined).body = d_law_joined.body.take 6 ++ tl := by rw [htl, List.take_append_drop]; rfl
  rw [hb]
  have hcv : cnts rs (k :: l) = (k :: l).map fun j => cntOf (rg rs j) := rfl
  have hsl : ((rs.map recPV).take (lastOf k l + 1)).drop k ≠ [] := by
    intro h
    have := congrArg List.length h
    simp at this
    have := (places_range hs k (.head _)).2
    omega
  obtain ⟨t2, ht2⟩ : ∃ t2, t2 = (d_law_joined.body.take 6).drop 2 ++ tl := ⟨_, rfl⟩
  have hb2 : d_law_joined.body.take 6 ++ tl = d_law_joined.body.take 2 ++ t2 := by rw [ht2]; rfl
  have rest : W (execL (callN D (n + 1)) t2 [some (.lst (rs.map recPV)), some (.lst (plV (k :: l))), some (.int lig), some (.int (ll + 1)), some (.lst (.int (cls (rg rs k).g) :: l.map fun j => .int (cls (rg rs j).g))), some (.bool (wayR k l rs == .ligature)), none, none, none, none, none, none, none, none, none, none, none, none, none, none, none, none, none]) σ (End Q) := by
    rw [ht2]
    simp only [d_law_joined, List.take, List.drop, List.cons_append, List.nil_append]
    simp
    refine fits_in (hl1) (W_mapL_pl (g := fun j => .int (cntOf (rg rs j))) (fun j hj => ?_) ?_)
    · refine W.eq ?_
      simp [sub_row (hl j hj) hL, cntOf]
    dsimp
    rw [pl_sub0 hl1]
    dsimp
    rw [pl_subl hl1]
    dsimp
    rw [show ((lastOf k l : Int) + 1) = ((lastOf k l + 1 : Nat) : Int) by with_reducible exact O.a12]
    rw [slice_lst (by simp; with_reducible exact O.a34b (by assumption)) (by simp; with_reducible exact O.a8 (by assumption)) (by simpa using hL)]
    dsimp
    refine fits_in (by simp; with_reducible exact O.a16a (by assumption)) (W_mapL (g := fun t => match t with | .lst (_ :: c :: _) => c | _ => .none) (fun t ht => ?_) ?_)
    · obtain ⟨r, _, rfl⟩ := List.mem_map.mp (List.mem_of_mem_take (List.mem_of_mem_drop ht))
      exact ⟨rfl, rfl⟩
    · dsimp only [kLst_ap, kL1_ap, wL_nil, kL2_ap, kCallB_ap]
      rw [bi_minL (xs := ((rs.map (·.c)).take (lastOf k l + 1)).drop k) (fun h => hsl (by
        have := congrArg List.length h
        apply List.eq_nil_of_length_eq_zero
        simpa using this)) (by
        simp only [List.map_drop, List.map_take, List.map_map]
        rfl)]
      have := span
      simp only [hcv, List.map_cons, List.map_map] at this
      exact this
  rw [hb2]
  simp only [d_law_joined, List.take, List.drop, List.cons_append, List.nil_append]
  simp
  refine fits_in (hl1) (W_mapL_pl (g := fun j => .int (cls (rg rs j).g)) (fun j hj => ?_) ?_)
  · refine W.eq ?_
    simp
    refine p_law_classes ?_
    simp [sub_row (hl j hj) hL, cls_get]
  rw [List.map_cons]
  dsimp only [kLst_ap, kAssign_ap, After_next, W_cons, wS_assign, wE_not, wE_and, wA_more, wE_cmp, wE_sub, wE_var, ep_4, ep_3, ep_2, ep_1, ep_0, eg_4, eg_3, eg_2, eg_1, eg_0, W_some, kSub1_ap, wE_int, kSub2_ap]
  have e0 : subV (.lst (.int (cls (rg rs k).g) :: l.map fun j => .int (cls (rg rs j).g))) (.int 0) = M.pure (.int (cls (rg rs k).g)) := sub_lst (k := 0) rfl (by simpa using hl1)
  rw [e0]
  dsimp
  rw [cv_in13]
  dsimp
  have hwh := wayR_whole (rs := rs) (k := k) (l := l)
  cases h13 : (decide (cls (rg rs k).g = 1) || decide (cls (rg rs k).g = 3)) with
  | false =>
    rw [h13] at hwh
    rw [WT_false]
    have hwh : (wayR k l rs == .ligature) = true := by rw [← hwh]; rfl
    rw [hwh] at rest
    exact rest
  | true =>
    rw [h13, Bool.true_and] at hwh
    dsimp
    rw [slice_from1 (by simpa using hl1)]
    dsimp
    rw [List.length_map, Int.add_sub_cancel, bv_rep (by with_reducible exact O.a13 (by assumption))]
    dsimp
    have := cv_eq_ints (xs := l.map fun j => cls (rg rs j).g) (ys := List.replicate l.length 3)
    rw [List.map_map] at this
    have e9 : (PV.int ∘ fun j => cls (rg rs j).g) = fun (j : Nat) => PV.int (cls (rg rs j).g) := rfl
    rw [e9] at this
    rw [this]
    dsimp
    rw [hwh]
    exact rest
end
end Mine.B
namespace Mine.B
set_option autoImplicit false
set_option linter.unusedVariables false
set_option linter.unusedSimpArgs false
set_option maxRecDepth 100000
set_option Elab.async false
set_option backward.defeqAttrib.useBackward true

theorem W_mapL_new {f : PV → M PV} {r : PV → List PV} : ∀ {ps : List PV} {σ : St} {Q : List PV → St → Prop}, (∀ p ∈ ps, ∀ (σ : St) (Q : PV → St → Prop), Q (.ref σ.length) (σ ++ [some (.list (r p))]) → W (f p) σ Q) →
    Q ((List.range ps.length).map fun j => .ref (σ.length + j)) (σ ++ ps.map fun p => some (.list (r p))) → W (mapL f ps) σ Q
  | [], σ, Q, _, q => by show Q [] σ; simpa using q
  | p :: ps, σ, Q, h, q => by
    show W (M.bind (f p) fun x => M.bind (mapL f ps) fun xs => M.pure (x :: xs)) σ Q
    rw [W_bind]
    refine h p (.head _) _ _ ?_
    rw [W_bind]
    refine W_mapL_new (ps := ps) (fun p hp => h p (.tail _ hp)) ?_
    rw [W_pure]
    have e : (PV.ref σ.length :: (List.range ps.length).map fun j => PV.ref ((σ ++ [some (PObj.list (r p))]).length + j)) = (List.range (p :: ps).length).map fun j => PV.ref (σ.length + j) := by
      rw [List.length_cons, List.range_succ_eq_map, List.map_cons, List.map_map]
      congr 1
      apply List.map_congr_left
      intro j _
      refine congrArg PV.ref ?_
      simp
      with_reducible exact O.a25f
    rw [e]
    simpa using q

theorem rg_range {rs : List Rec} : ((List.range rs.length).map fun j => recPV (rg rs j)) = rs.map recPV := by
  apply List.ext_getElem?
  intro i
  rw [List.getElem?_map, List.getElem?_map]
  by_cases h : i < rs.length
  · rw [List.getElem?_range h, rg_get h]; rfl
  · rw [List.getElem?_eq_none (by simp; omega), List.getElem?_eq_none (by omega)]; rfl

section
variable {n : Nat} {σ : St} {Q : PV → St → Prop} {rs : List Rec} {ll : Int} {p : Bool}
theorem p_law_due (hn : rs.length < 150) (ho : ∀ k, k < rs.length → Ok (rg rs k)) {k : Nat} (hk : k < rs.length) {T : Tab} (hT : ∀ e ∈ getT (rg rs k).g T, e.1.length < 150)
    (q : ∀ σ', Ext σ σ' → Q (.tup [.lst ((applyR p rs ll k (getT (rg rs k).g T)).js.map fun j => recPV (rg (applyR p rs ll k (getT (rg rs k).g T)).rs j)), .int (applyR p rs ll k (getT (rg rs k).g T)).goal, .int (applyR p rs ll k (getT (rg rs k).g T)).ll]) σ') :
    W (callN D (n + 3) .law_due [.lst (rs.map recPV), .dct (tabKvs T), .int k, .bool p, .int (ll + 1)]) σ Q := by
  have hL : rs.length < LIM := lim_small (by with_reducible exact O.a13 (by assumption))
  refine W_callP (d := d_law_due) rfl rfl ?_
  dsimp [d_law_due]
  rw [sub_row hk hL]
  dsimp
  rw [getT_kv]
  dsimp
  generalize hes : getT (rg rs k).g T = es at hT q ⊢
  obtain ⟨I, hI⟩ : ∃ I : Nat → Env → St → Prop, ∀ i ρ σ', I i ρ σ' ↔ Ext σ σ' ∧ ∃ (v5 v6 v8 : Option PV), ρ = [some (.lst (rs.map recPV)), some (.dct (tabKvs T)), some (.int k), some (.bool p), some (.int (ll + 1)), v5, v6, none, v8, none, none] ∧
      applyR p rs ll k es = applyR p rs ll k (es.drop i) := ⟨_, fun _ _ _ => Iff.rfl⟩
  refine W_forL I _ 0 _ _ (fun i ρ σ' t ht hi => ?_) (fun ρ σ' hi => ?_) ((hI _ _ _).mpr ⟨Ext.refl, none, none, none, rfl, rfl⟩)
  · rw [Nat.zero_add] at hi ⊢
    obtain ⟨E', v5, v6, v8, rfl, a6⟩ := (hI _ _ _).mp hi
    rw [List.getElem?_map] at ht
    obtain ⟨e, he, rfl⟩ : ∃ e, es[i]? = some e ∧ entV e = t := by
      cases hx : es[i]? with
      | none => rw [hx] at ht; cases ht
      | some x => rw [hx] at ht; exact ⟨x, rfl, by simpa using ht⟩
    obtain ⟨rest, lig⟩ := e
    have hrl : rest.length < 150 := hT _ (List.mem_of_getElem? he)
    rw [drop_at he, applyR] at a6
    dsimp [entV]
    rw [cv_eq_nil]
    dsimp
    by_cases hr : rest = []
    · rw [if_pos hr] at a6
      rw [a6] at q
      refine WT_t (decide_eq_true hr) ?_
      refine fits_in (by rw [List.length_map]; exact hL) (W_mapL_new (r := fun t => match t with | .lst vs => vs | _ => []) (fun t ht σ Q q => ?_) ?_)
      · obtain ⟨r, _, rfl⟩ := List.mem_map.mp ht
        exact ⟨_, rfl, q⟩
      dsimp only [kLst_ap, kAssign_ap, After_next]
      have es2 : (rs.map recPV).map (fun p => some (PObj.list (match p with | .lst vs => vs | _ => []))) = rs.map fun r => some (PObj.list (recItems r)) := by
        rw [List.map_map]; rfl
      rw [es2]
      have hs0 : ∀ j, j < rs.length → (σ' ++ rs.map fun r => some (PObj.list (recItems r)))[σ'.length + j]? = some (some (.list (recItems (rg rs j)))) := fun j hj => by
        rw [List.getElem?_append_right (by omega), Nat.add_sub_cancel_left, List.getElem?_map, rg_get hj]; rfl
      have hE : Ext σ (σ' ++ rs.map fun r => some (PObj.list (recItems r))) := ⟨by have := E'.1; rw [List.length_append]; with_reducible exact O.a34l (by assumption), fun i hi => by rw [List.getElem?_append_left (by have := E'.1; with_reducible exact O.a34i (by assumption) (by assumption)), E'.2 i hi]⟩
      generalize (σ' ++ rs.map fun r => some (PObj.list (recItems r))) = σ₁ at hs0 hE ⊢
      dsimp
      rw [sub_lst (v := .ref (σ'.length + k)) (by simp [hk]) (by simpa using hL)]
      dsimp
      rw [show (0 : Int) = ((0 : Nat) : Int) from rfl, W_setSub (hs0 k hk) (by rw [recItems_len]; decide) (by rw [recItems_len]; decide)]
      dsimp only [kDone_ap, After_next, W_cons, wS_ret, wE_tup, wL_cons, wE_frz, wE_var, eg_7, eg_6, eg_5, eg_4, eg_3, eg_2, eg_1, eg_0, W_some, kFrz_ap]
      have hle := E'.1
      have hlt := live_lt (hs0 k hk)
      have h2 : ∀ j, j < rs.length → (σ₁.set (σ'.length + k) (some (.list ((recItems (rg rs k)).set 0 (.int lig)))))[σ'.length + j]? = some (some (.list (recItems (rg (rs.set k { rg rs k with g := lig }) j)))) := fun j hj => by
        rw [rg_set hk]
        by_cases e : j = k
        · subst e; rw [set_self hlt, if_pos rfl]; rfl
        · rw [set_other (by with_reducible exact O.a10 (by assumption)), if_neg e]; exact hs0 j hj
      have h3 : Ext σ (σ₁.set (σ'.length + k) (some (.list ((recItems (rg rs k)).set 0 (.int lig))))) := hE.set (by with_reducible exact O.a34l (by assumption))
      generalize σ₁.set (σ'.length + k) (some (.list ((recItems (rg rs k)).set 0 (.int lig)))) = σ₂ at h2 h3 ⊢
      rw [List.length_map]
      show W (M.bind (mapL (freeze 8) _) fun us => M.pure (PV.lst us)) _ _
      rw [W_bind]
      refine W_freezeL_objs (B := σ'.length) (v := fun j => recPV (rg (rs.set k { rg rs k with g := lig }) j)) (o := fun j => .list (recItems (rg (rs.set k { rg rs k with g := lig }) j))) (n := 8) (fun j σ Q h q => ?_) _ _ _ List.pairwise_lt_range (fun j hj => h2 j (List.mem_range.mp hj)) fun σ₃ e1 e2 => ?_
      · exact freeze_items h q
      · simp only [W_pure]
        have := q σ₃ ⟨by rw [e1]; exact h3.1, fun i hi => by rw [e2 i fun j _ => by omega]; exact h3.2 i hi⟩
        simpa using this
    · rw [if_neg hr] at a6
      refine WT_f (decide_eq_false hr) ?_
      refine p_law_places (n := n) hn ho hrl hk fun σ₂ E₂ => ?_
      have E₂ := E'.trans E₂
      unfold lawPl
      cases hc : chase p rs rest k with
      | none =>
        rw [hc] at a6
        simp [placesV]
        exact (hI _ _ _).mpr ⟨E₂, _, _, _, rfl, a6⟩
      | some l =>
        rw [hc] at a6
        dsimp only at a6 ⊢
        obtain ⟨c1, c2, c3⟩ := chase_ok hk hc
        have hll : l.length < 150 := by with_reducible exact O.a13r (by assumption) (by assumption) (by assumption)
        have hl1 : l.length + 1 < LIM := lim_small (by with_reducible exact O.a13a (by assumption))
        by_cases hh : (l.all fun j => holdOk (rg rs k) (rg rs j)) = true
        · rw [if_pos hh] at a6 ⊢
          rw [a6] at q
          simp [placesV]
          refine p_law_joined (n := n) hn c1 hll c2 fun σ₃ E₃ => ?_
          have := q σ₃ (E₂.trans E₃)
          simp
          rw [pl_subl hl1]
          simp
          rw [← joinR_law _ c1 c2]
          unfold ligOf at this
          cases hw : wayR k l rs == SK.ligature with
          | true => rw [hw] at this; simpa [hw] using this
          | false => rw [hw] at this; simpa [hw] using this
        · rw [if_neg hh] at a6 ⊢
          simp [placesV]
          exact (hI _ _ _).mpr ⟨E₂, _, _, _, rfl, a6⟩
  · rw [Nat.zero_add, List.length_map] at hi
    obtain ⟨E', v5, v6, v8, rfl, a6⟩ := (hI _ _ _).mp hi
    rw [List.drop_of_length_le (Nat.le_refl _)] at a6
    rw [a6] at q
    have := q σ' E'
    simp [applyR, rg_range] at this
    simpa using this
end
end Mine.B
namespace Mine.B
set_option autoImplicit false
set_option linter.unusedVariables false
set_option linter.unusedSimpArgs false
set_option maxRecDepth 100000
set_option Elab.async false
set_option backward.defeqAttrib.useBackward true

noncomputable def penV (ds : List Int) (i : Nat) (acc : Int) : List PV := [.lst (ds.map .int), .int i, .int acc]
structure Pen (σ : St) (c : Nat) : Prop where
  out : ∃ (ds : List Int) (i : Nat) (acc : Int), σ[0]? = some (some (.list (penV ds i acc))) ∧ ds ≠ [] ∧ ds.length < 100 ∧ 0 ≤ acc ∧ i ≤ c
noncomputable def Fr (σ σ' : St) : Prop := σ.length ≤ σ'.length ∧ ∀ i, 0 < i → i < σ.length → σ'[i]? = σ[i]?
theorem Fr.refl {σ : St} : Fr σ σ := ⟨Nat.le_refl _, fun _ _ _ => rfl⟩
theorem Fr.trans {σ σ₁ σ₂ : St} (h : Fr σ σ₁) (h2 : Fr σ₁ σ₂) : Fr σ σ₂ := ⟨Nat.le_trans h.1 h2.1, fun i h0 hi => by rw [h2.2 i h0 (by have := h.1; with_reducible exact O.a34i (by assumption) (by assumption)), h.2 i h0 hi]⟩
theorem Fr.set0 {σ σ' : St} {o : Option PObj} (h : Fr σ σ') : Fr σ (σ'.set 0 o) := ⟨by have := h.1; simpa using this, fun i h0 hi => by rw [set_other (by omega), h.2 i h0 hi]⟩
theorem Fr.alloc {σ σ' : St} {o : Option PObj} (h : Fr σ σ') : Fr σ (σ' ++ [o]) := ⟨by have := h.1; simp; with_reducible exact O.a34 (by assumption), fun i h0 hi => by rw [List.getElem?_append_left (by have := h.1; with_reducible exact O.a34i (by assumption) (by assumption)), h.2 i h0 hi]⟩
theorem Pen.alloc {σ : St} {c : Nat} (h : Pen σ c) (o : Option PObj) : Pen (σ ++ [o]) c := by
  obtain ⟨ds, i, acc, h1, h2⟩ := h.out
  exact ⟨ds, i, acc, by rw [List.getElem?_append_left (live_lt h1)]; exact h1, h2⟩
theorem Pen.set {σ : St} {c j : Nat} (h : Pen σ c) (hj : 0 < j) (o : Option PObj) : Pen (σ.set j o) c := by
  obtain ⟨ds, i, acc, h1, h2⟩ := h.out
  exact ⟨ds, i, acc, by rw [set_other (by omega)]; exact h1, h2⟩
theorem Pen.le {σ : St} {c d : Nat} (h : Pen σ c) (hd : c ≤ d) : Pen σ d := by
  obtain ⟨ds, i, acc, h1, h2, h3, h4, h5⟩ := h.out
  exact ⟨ds, i, acc, h1, h2, h3, h4, by with_reducible exact O.a34k (by assumption) (by assumption)⟩
theorem Pen.pos {σ : St} {c : Nat} (h : Pen σ c) : 0 < σ.length := by
  obtain ⟨ds, i, acc, h1, _⟩ := h.out
  exact live_lt h1
theorem bv_mod {a b : Int} (h : 0 < b) : binV .mod (.int a) (.int b) = some (.int (a % b)) := by
  have : binV .mod (.int a) (.int b) = if b = 0 then none else some (.int (a.fmod b)) := rfl
  rw [this, if_neg (by omega), Int.fmod_eq_emod_of_nonneg _ (by omega)]
theorem bv_fdiv {a b : Int} (h : 0 < b) (hf : fits b = true) : binV .fdiv (.int a) (.int b) = some (.int (a / b)) := by
  have : binV .fdiv (.int a) (.int b) = if b = 0 ∨ ¬ fits b then none else some (.int (a.fdiv b)) := rfl
  rw [this, if_neg (by simp [hf]; omega), Int.fdiv_eq_ediv_of_nonneg _ (by omega)]
theorem bv_mul {a b : Int} (h : mulOk a b = true) : binV .mul (.int a) (.int b) = some (.int (a * b)) := by
  have : binV .mul (.int a) (.int b) = if mulOk a b then some (.int (a * b)) else none := rfl
  rw [this, if_pos h]

section
variable {σ : St} {x y z v : PV}
theorem k0 {Q : PV → St → Prop} (h : σ[0]? = some (some (.list [x, y, z]))) : W (subV (.ref 0) (.int 0)) σ Q ↔ Q x σ := W_sub_ref (k := 0) h rfl lim3
theorem k1 {Q : PV → St → Prop} (h : σ[0]? = some (some (.list [x, y, z]))) : W (subV (.ref 0) (.int 1)) σ Q ↔ Q y σ := W_sub_ref (k := 1) h rfl lim3
theorem k2 {Q : PV → St → Prop} (h : σ[0]? = some (some (.list [x, y, z]))) : W (subV (.ref 0) (.int 2)) σ Q ↔ Q z σ := W_sub_ref (k := 2) h rfl lim3
theorem s1 {Q : Unit → St → Prop} (h : σ[0]? = some (some (.list [x, y, z]))) : W (setSubV (.ref 0) (.int 1) v) σ Q ↔ Q () (σ.set 0 (some (.list [x, v, z]))) := W_setSub (k := 1) h (Nat.le_of_ble_eq_true rfl) lim3
theorem s2 {Q : Unit → St → Prop} (h : σ[0]? = some (some (.list [x, y, z]))) : W (setSubV (.ref 0) (.int 2) v) σ Q ↔ Q () (σ.set 0 (some (.list [x, y, v]))) := W_setSub (k := 2) h (Nat.le_of_ble_eq_true rfl) lim3
end
section
variable {n c : Nat} {σ : St} {Q : PV → St → Prop}
theorem p_law_draw (h : Pen σ c) (hc : c < 100000) {many : Nat} (h1 : 0 < many) (h2 : many < 1000) (q : ∀ σ' (d : Nat), σ'.length = σ.length → (∀ i, 0 < i → σ'[i]? = σ[i]?) → Pen σ' (c + 1) → d < many → Q (.int d) σ') :
    W (callN D (n + 1) .law_draw [.ref 0, .int many]) σ Q := by
  obtain ⟨ds, i, acc, g1, g2, g3, g4, g5⟩ := h.out
  unfold penV at g1
  have hlt := live_lt g1
  refine W_callD (d := d_law_draw) (ρ := [some (.ref 0), some (.int many), none, none]) rfl rfl ?_
  dsimp [d_law_draw]
  have hm : (0 : Int) < many := by with_reducible exact O.a14h (by assumption)
  have last : ∀ (σ₁ : St) (j : Nat) (a : Int) (v2 : Option PV), σ₁.length = σ.length → (∀ i, 0 < i → σ₁[i]? = σ[i]?) → σ₁[0]? = some (some (.list [.lst (ds.map .int), .int j, .int a])) → 0 ≤ a → j ≤ c + 1 → W (execL (callN D n) (d_law_draw.body.drop 1) [some (.ref 0), some (.int many), v2, none]) σ₁ (End Q) := fun σ₁ j a v2 e1 e2 e3 e4 e5 => by
    dsimp [d_law_draw, List.drop]
    have hl1 := live_lt e3
    rw [k2 e3]
    dsimp
    rw [bv_mod hm]
    dsimp
    rw [k2 e3]
    dsimp
    rw [bv_fdiv hm (fits_small (by with_reducible exact O.a14c) (by omega))]
    dsimp
    rw [s2 e3]
    have hmod := Int.emod_nonneg a (show (many : Int) ≠ 0 by omega)
    have hmod2 := Int.emod_lt_of_pos a hm
    have := q (σ₁.set 0 (some (.list [.lst (ds.map .int), .int j, .int (a / many)]))) (a % many).toNat (by rw [List.length_set, e1]) (fun i hi => by rw [set_other (by omega), e2 i hi]) ⟨ds, j, a / many, by rw [set_self hl1]; rfl, g2, g3, Int.ediv_nonneg e4 (by with_reducible exact O.a14i), e5⟩ (by with_reducible exact O.a21f (by assumption) (by assumption))
    rw [show (((a % many).toNat : Nat) : Int) = a % many by with_reducible exact O.a21e (by assumption)] at this
    exact this
  rw [k2 g1]
  dsimp
  rw [cv_eq]
  dsimp
  by_cases ha : acc = 0
  · subst ha
    refine WT_t rfl ?_
    rw [k0 g1]
    dsimp
    rw [k1 g1]
    dsimp
    rw [k0 g1]
    have hdl : 0 < ds.length := List.length_pos_iff.mpr g2
    have hdI : (0 : Int) < ds.length := by with_reducible exact O.a14h (by assumption)
    dsimp
    rw [List.length_map, bv_mod hdI]
    have hmod := Int.emod_nonneg (i : Int) (show (ds.length : Int) ≠ 0 by omega)
    have hmod2 := Int.emod_lt_of_pos (i : Int) hdI
    obtain ⟨x, hx⟩ : ∃ x : Nat, (x : Int) = (i : Int) % ds.length := ⟨((i : Int) % ds.length).toNat, by with_reducible exact O.a21e (by assumption)⟩
    rw [← hx]
    have hxl : x < ds.length := by omega
    dsimp
    rw [sub_lst (v := .int ds[x]) (by rw [List.getElem?_map, List.getElem?_eq_getElem hxl]; rfl) (by rw [List.length_map]; exact lim_small (by with_reducible exact O.a13t (by assumption)))]
    dsimp
    rw [k1 g1]
    dsimp
    rw [s1 g1]
    dsimp
    have g9 : (σ.set 0 (some (.list [.lst (ds.map .int), .int ((i : Int) + 1), .int 0])))[0]? = some (some (.list [.lst (ds.map .int), .int ((i : Int) + 1), .int 0])) := set_self hlt
    rw [bv_mul (by unfold mulOk; rw [Bool.or_eq_true, fits_of]; left; omega)]
    have hml : mulOk (7919 * ((i : Int) + 1)) ((i : Int) + 1) = true := by unfold mulOk; rw [Bool.or_eq_true, fits_of, fits_of]; right; omega
    have hml2 : mulOk 7919 ((i : Int) + 1) = true := by unfold mulOk; rw [Bool.or_eq_true, fits_of]; left; omega
    have hnn : 0 ≤ 7919 * ((i : Int) + 1) * ((i : Int) + 1) := Int.mul_nonneg (by omega) (by omega)
    have end_ : ∀ u : Int, 0 ≤ u → W (M.ofOpt (binV .add (.int (2 * (ds[x].natAbs : Int))) (.int u))) (σ.set 0 (some (.list [.lst (ds.map .int), .int ((i : Int) + 1), .int 0]))) (kBin1 (callN D n) .add (.bin .mul (.bin .mul (.int 7919) (.sub (.var 0) (.int 1))) (.sub (.var 0) (.int 1))) [some (.ref 0), some (.int many), some (.int ds[x]), none] (kBin1 (callN D n) .add (.int 1) [some (.ref 0), some (.int many), some (.int ds[x]), none] (kSetB1 (callN D n) (.var 0) (.int 2) [some (.ref 0), some (.int many), some (.int ds[x]), none] (After (callN D n) [] (After (callN D n) (d_law_draw.body.drop 1) (End Q)))))) := fun u hu => by
      dsimp
      rw [k1 g9]
      dsimp
      rw [bv_mul hml2]
      dsimp
      rw [k1 g9]
      dsimp
      rw [bv_mul hml]
      dsimp
      rw [s2 g9, List.set_set]
      exact last _ (i + 1) _ _ List.length_set (fun j hj => set_other (by omega)) (by rw [set_self hlt]; rfl) (by omega) (by with_reducible exact O.a34c (by assumption))
    dsimp
    by_cases hneg : ds[x] < 0
    · exact WT_t (decide_eq_true hneg) (end_ 1 (by omega))
    · exact WT_f (decide_eq_false hneg) (end_ 0 (by omega))
  · refine WT_f (decide_eq_false ha) ?_
    exact last σ i acc none rfl (fun _ _ => rfl) g1 g4 (by with_reducible exact O.a34 (by assumption))
end
end Mine.B
namespace Mine.B
set_option autoImplicit false
set_option linter.unusedVariables false
set_option linter.unusedSimpArgs false
set_option maxRecDepth 100000
set_option Elab.async false
set_option backward.defeqAttrib.useBackward true

theorem after_of {C : Fn → List PV → M PV} {r : List PS} {m : M (Fl × Env)} {σ : St} {I : Env → St → Prop} {Q : Fl × Env → St → Prop} (h : W m σ (After C r fun p σ₂ => p.1 = .next ∧ I p.2 σ₂)) : W m σ (After C r (Turn I Q)) := h.mono fun p σ₂ h => by
  obtain ⟨fl, ρ⟩ := p
  cases fl with
  | next => exact turn_of h
  | brk => exact nomatch h.1
  | ret v => exact nomatch h.1
structure RowS (σ σ' : St) (A c : Nat) (vs : List PV) : Prop where
  pen : Pen σ' c
  fr : Fr σ σ'
  le : σ.length ≤ A
  pos : 0 < A
  row : σ'[A]? = some (some (.list vs))
section
variable {n c A : Nat} {σ σ' : St} {Q : PV → St → Prop} {vs : List PV}
theorem RowS.draw (B : RowS σ σ' A c vs) (hc : c < 1000) {many : Nat} (h1 : 0 < many) (h2 : many < 1000) (q : ∀ σ₂ (d : Nat), RowS σ σ₂ A (c + 1) vs → d < many → Q (.int d) σ₂) : W (callN D (n + 1) .law_draw [.ref 0, .int many]) σ' Q :=
  p_law_draw B.pen (by with_reducible exact O.a13f (by assumption)) h1 h2 fun σ₂ d e1 e2 P hd => q σ₂ d ⟨P, ⟨by rw [e1]; exact B.fr.1, fun i h0 hi => by rw [e2 i h0]; exact B.fr.2 i h0 hi⟩, B.le, B.pos, by rw [e2 A B.pos]; exact B.row⟩ hd
theorem RowS.push (B : RowS σ σ' A c vs) (hn : vs.length < LIM) {v : PV} (q : ∀ σ₂, RowS σ σ₂ A c (vs ++ [v]) → Q .none σ₂) : W (methV .append (.ref A) [v]) σ' Q := by
  rw [W_append B.row hn]
  refine q _ ⟨B.pen.set B.pos _, ⟨by rw [List.length_set]; exact B.fr.1, fun i h0 hi => ?_⟩, B.le, B.pos, set_self (live_lt B.row)⟩
  rw [set_other (by have := B.le; omega)]; exact B.fr.2 i h0 hi
theorem sub_tup_ints {xs : List Int} {d : Nat} (h : d < xs.length) (hn : xs.length < LIM) : ∃ x ∈ xs, subV (.tup (xs.map .int)) (.int d) = M.pure (.int x) := by
  refine ⟨xs[d], List.getElem_mem h, ?_⟩
  show M.ofOpt (itemAt (xs.map .int) d) = _
  rw [item_nat (v := .int xs[d]) (by rw [List.getElem?_map, List.getElem?_eq_getElem h]; rfl) (by rw [List.length_map]; exact hn)]
  rfl
noncomputable def kindOf (w : Int) : SK := if w = 1 then .zwj else if w = 2 then .zwnj else if w = 4 then .hidden else .empty
theorem kind_get (w : Int) : (kvGet w [(1, .str .zwj), (2, .str .zwnj), (4, .str .hidden)]).getD (.str .empty) = .str (kindOf w) := by
  unfold kindOf
  simp only [kvGet]
  repeat (split; · rfl)
  rfl

noncomputable def envR (A : Nat) (cl held : Int) (i : Nat) (g w lig part cnt : Int) (v10 : Option PV) : Env :=
  [some (.ref 0), some (.ref A), some (.int cl), some (.int held), some (.int i), some (.int g), some (.int w), some (.int lig), some (.int part), some (.int cnt), v10]
noncomputable def RowI (σ : St) (c i : Nat) (ρ : Env) (σ' : St) : Prop := ∃ (rs : List Rec) (cl held : Int) (v4 v5 v6 v7 v8 v9 v10 : Option PV), RowS σ σ' σ.length (c + 1 + 8 * i) (rs.map recPV) ∧ rs.length = i ∧ (∀ k, k < i → Ok (rg rs k) ∧ (rg rs k).cd = 1000 + k) ∧ 0 ≤ held ∧
      ρ = [some (.ref 0), some (.ref σ.length), some (.int cl), some (.int held), v4, v5, v6, v7, v8, v9, v10]
theorem row_c {c i : Nat} (hc : c < 10) (hi : i < 10) (k : Nat) (hk : k < 100) : c + 1 + 8 * i + k < 1000 := by with_reducible exact O.a28 (by assumption) (by assumption) (by assumption)
noncomputable def rowTl : List PS := [(.assign 3 (.ite (.cmp .gt (.var 7) (.int 0)) (.var 7) (.var 3))),
    (.assign 10 (.meth (.dict [1, 2, 4] [(.str .zwj), (.str .zwnj), (.str .hidden)]) .get [(.var 6), (.str .empty)])),
    (.expr (.meth (.var 1) .append [(.list [(.var 5), (.var 2), (.ite (.cmp .eq (.var 6) (.int 0)) (.int 2) (.int 3)), (.var 10), (.var 7), (.var 8), (.var 9), (.cmp .eq (.var 6) (.int 3)), (.bin .fdiv (.var 6) (.int 4))])]))]
theorem row_push {rs : List Rec} {i c' : Nat} {cl held g w lig part cnt m : Int} {σ₂ : St} (hi : rs.length = i) (h2 : i < 10) (ho : ∀ k, k < i → Ok (rg rs k) ∧ (rg rs k).cd = 1000 + k) (hl : 0 ≤ lig) (hp : 0 ≤ part) (hh : 0 ≤ held) (hm : m = 2 ∨ m = 3)
    (B : RowS σ σ₂ σ.length c' (rs.map recPV)) (hc : c' ≤ c + 1 + 8 * i + 8) :
    W (methV .append (.ref σ.length) [.lst [.int g, .int cl, .int m, .str (kindOf w), .int lig, .int part, .int cnt, .bool (decide (w = 3)), .int (w / 4)]]) σ₂ (fun _ σ₁ => RowI σ c (i + 1) (envR σ.length cl held i g w lig part cnt (some (.str (kindOf w)))) σ₁) := by
  refine B.push (lim_small (by rw [List.length_map]; with_reducible exact O.a13h (by assumption) (by assumption))) fun σ₃ B₃ => ?_
  refine ⟨rs ++ [⟨1000 + i, g, cl, m, kindOf w, lig, part, cnt, decide (w = 3), w / 4⟩], cl, held, _, _, _, _, _, _, _, ⟨B₃.pen.le hc, B₃.fr, B₃.le, B₃.pos, by rw [B₃.row, List.map_append]; rfl⟩, by rw [List.length_append, hi]; rfl, fun k hk => ?_, hh, rfl⟩
  rw [rg_push]
  by_cases h : k < rs.length
  · rw [if_pos h]; exact ho k (hi ▸ h)
  · have e : k = rs.length := by with_reducible exact O.a7'' (by assumption) (by assumption) (by assumption)
    rw [if_neg h, if_pos e]
    exact ⟨⟨hm, hl, hp⟩, by rw [e, hi]⟩
theorem row_tl {C : Fn → List PV → M PV} {rs : List Rec} {i c' : Nat} {cl held g w lig part cnt : Int} {σ₂ : St} {v10 : Option PV} (hi : rs.length = i) (h2 : i < 10) (ho : ∀ k, k < i → Ok (rg rs k) ∧ (rg rs k).cd = 1000 + k) (hl : 0 ≤ lig) (hp : 0 ≤ part) (hh : 0 ≤ held)
    (B : RowS σ σ₂ σ.length c' (rs.map recPV)) (hc : c' ≤ c + 1 + 8 * i + 8) : W (execL C rowTl (envR σ.length cl held i g w lig part cnt v10)) σ₂ (fun p σ₂ => p.1 = .next ∧ RowI σ c (i + 1) p.2 σ₂) := by
  have fin : ∀ held', 0 ≤ held' → W (execL C (rowTl.drop 1) (envR σ.length cl held' i g w lig part cnt v10)) σ₂ (fun p σ₂ => p.1 = .next ∧ RowI σ c (i + 1) p.2 σ₂) := fun held' hh => by
    dsimp [rowTl, envR, kvPutAll, kvPut, List.drop, List.zip, List.zipWith]
    rw [kind_get]
    rw [W_append_k B.row]
    dsimp
    rw [cv_eq]
    dsimp
    by_cases h0 : w = 0
    · refine WT_t (decide_eq_true h0) ?_
      rw [cv_eq]
      dsimp
      rw [bv_fdiv (by decide) (by decide)]
      exact (row_push hi h2 ho hl hp hh (.inl rfl) B hc).mono fun _ _ z => ⟨rfl, z⟩
    · refine WT_f (decide_eq_false h0) ?_
      rw [cv_eq]
      dsimp
      rw [bv_fdiv (by decide) (by decide)]
      exact (row_push hi h2 ho hl hp hh (.inr rfl) B hc).mono fun _ _ z => ⟨rfl, z⟩
  by_cases h : 0 < lig
  · exact WT_t (decide_eq_true h) (fin lig hl)
  · exact WT_f (decide_eq_false h) (fin held hh)
theorem row_part {rs : List Rec} {i k : Nat} {cl held g w lig : Int} {σ₂ : St} {v10 : Option PV} (hi : rs.length = i) (h2 : i < 10) (hc : c < 10) (ho : ∀ k, k < i → Ok (rg rs k) ∧ (rg rs k).cd = 1000 + k) (hl : 0 ≤ lig) (hh : 0 ≤ held)
    (B : RowS σ σ₂ σ.length (c + 1 + 8 * i + k) (rs.map recPV)) (hk : k ≤ 4) : W (execL (callN D (n + 1)) ((.ifs (.bor [(.cmp .gt (.var 7) (.int 0)), (.cmp .eq (.callF .law_draw [(.var 0), (.int 2)]) (.int 1))]) [(.assign 8 (.bin .add (.int 1) (.callF .law_draw [(.var 0), (.int 3)])))] []) :: rowTl) (envR σ.length cl held i g w lig 0 0 v10)) σ₂ (fun p σ₂ => p.1 = .next ∧ RowI σ c (i + 1) p.2 σ₂) := by
  have hk1 : c + 1 + 8 * i + k + 1 < 1000 := by with_reducible exact O.a28b (by assumption) (by assumption) (by assumption) (by assumption)
  have dr : ∀ (σ₂ : St) (k' : Nat), RowS σ σ₂ σ.length (c + 1 + 8 * i + k') (rs.map recPV) → k' ≤ 5 → W (callN D (n + 1) .law_draw [.ref 0, .int 3]) σ₂ (kBin2 .add (.int 1) (kAssign (envR σ.length cl held i g w lig 0 0 v10) 8 (After (callN D (n + 1)) [] (After (callN D (n + 1)) rowTl (fun p σ₂ => p.1 = .next ∧ RowI σ c (i + 1) p.2 σ₂))))) := fun σ₂ k' B hk' => by
    refine B.draw (n := n) (many := 3) (by with_reducible exact O.a28a (by assumption) (by assumption) (by assumption) (by assumption)) (by decide) (by decide) fun σ₂ d2 B hd => ?_
    exact row_tl (part := 1 + d2) hi h2 ho hl (by with_reducible exact O.a14g) hh B (by with_reducible exact O.a28d (by assumption))
  dsimp [envR]
  by_cases hl0 : 0 < lig
  · exact WT_t (decide_eq_true hl0) (WT_t (decide_eq_true hl0) (dr σ₂ k B (by with_reducible exact O.a34 (by assumption))))
  · refine WT_f (decide_eq_false hl0) ?_
    refine B.draw (n := n) (many := 2) (by with_reducible exact O.a28e (by assumption)) (by decide) (by decide) fun σ₂ d2 B hd => ?_
    dsimp
    rw [cv_eq]
    dsimp
    by_cases hd2 : (d2 : Int) = 1
    · exact WT_t (decide_eq_true hd2) (dr σ₂ (k + 1) B (by with_reducible exact O.a34c (by assumption)))
    · exact WT_f (decide_eq_false hd2) (row_tl hi h2 ho hl (Int.le_refl _) hh B (by with_reducible exact O.a28c (by assumption)))

theorem p_law_row (h : Pen σ c) (hc : c < 10) (q : ∀ σ' (rs : List Rec), Fr σ σ' → Pen σ' (c + 100) → 2 ≤ rs.length → rs.length < 10 → (∀ k, k < rs.length → Ok (rg rs k) ∧ (rg rs k).cd = 1000 + k) → Q (.lst (rs.map recPV)) σ') :
    W (callN D (n + 2) .law_row [.ref 0]) σ Q := by
  refine W_callD (d := d_law_row) (ρ := [some (.ref 0), none, none, none, none, none, none, none, none, none, none]) rfl rfl ?_
  dsimp [d_law_row]
  have B0 : RowS σ (σ ++ [some (.list [])]) σ.length c [] := ⟨h.alloc _, Fr.refl.alloc, Nat.le_refl _, h.pos, by simp⟩
  refine B0.draw (n := n) (many := 8) (by with_reducible exact O.a13b (by assumption)) (by decide) (by decide) fun σ₁ d B₁ hd => ?_
  dsimp
  rw [bi_range1 (fits_small (by omega) (by with_reducible exact O.a28q (by assumption)))]
  dsimp
  refine W_forL (RowI σ c) _ 0 _ _ (fun i ρ σ' t ht hi => ?_) (fun ρ σ' hi => ?_) ⟨[], 0, 0, none, none, none, none, none, none, none, B₁, rfl, fun k hk => absurd hk (Nat.not_lt_zero _), Int.le_refl _, rfl⟩
  · rw [Nat.zero_add] at hi ⊢
    obtain ⟨rs, cl, held, v4, v5, v6, v7, v8, v9, v10, B, e1, e2, e3, rfl⟩ := hi
    obtain ⟨rfl, hir⟩ := rangeL_at ht
    rw [Int.zero_add]
    have hir : i < 10 := by with_reducible exact O.a28o (by assumption) (by assumption)
    clear ht hd B₁ B0
    dsimp
    refine B.draw (n := n) (many := 8) (row_c hc hir 0 (by decide)) (by decide) (by decide) fun σ₂ d B hd => ?_
    dsimp
    obtain ⟨g, _, hg⟩ := sub_tup_ints (xs := [1, 2, 3, 4, 5, 6, 4, 5]) (d := d) hd (by decide)
    rw [show PV.tup [.int 1, .int 2, .int 3, .int 4, .int 5, .int 6, .int 4, .int 5] = .tup (([1, 2, 3, 4, 5, 6, 4, 5] : List Int).map .int) from rfl, hg]
    clear hg hd d
    dsimp
    refine B.draw (n := n) (many := 4) (row_c hc hir 1 (by decide)) (by decide) (by decide) fun σ₂ d B hd => ?_
    dsimp
    obtain ⟨x, _, hx⟩ := sub_tup_ints (xs := [0, 1, 1, 2]) (d := d) hd (by decide)
    rw [show PV.tup [.int 0, .int 1, .int 1, .int 2] = .tup (([0, 1, 1, 2] : List Int).map .int) from rfl, hx]
    clear hx hd d
    generalize cl + x = cl
    dsimp
    refine B.draw (n := n) (many := 9) (row_c hc hir 2 (by decide)) (by decide) (by decide) fun σ₂ w B hd => ?_
    clear hd
    dsimp
    rw [cv_eq]
    dsimp
    by_cases hg4 : g = 4
    · refine WT_t (decide_eq_true hg4) ?_
      refine B.draw (n := n) (many := 2) (row_c hc hir 3 (by decide)) (by decide) (by decide) fun σ₂ d2 B hd => ?_
      dsimp
      refine B.draw (n := n) (many := 2) (row_c hc hir 4 (by decide)) (by decide) (by decide) fun σ₂ d3 B hd => ?_
      exact turn_of (row_tl e1 hir e2 (by with_reducible exact O.a14g) (Int.le_refl _) e3 B (by with_reducible exact O.a28f))
    · refine WT_f (decide_eq_false hg4) ?_
      by_cases hg5 : 4 < g
      · refine WT_t (decide_eq_true hg5) ?_
        refine B.draw (n := n) (many := 5) (row_c hc hir 3 (by decide)) (by decide) (by decide) fun σ₂ d2 B hd => ?_
        dsimp
        obtain ⟨y, hy1, hy⟩ := sub_tup_ints (xs := [held, 0, 1, held, 2]) (d := d2) hd (Nat.le_of_ble_eq_true rfl)
        rw [show PV.tup [.int held, .int 0, .int 1, .int held, .int 2] = .tup (([held, 0, 1, held, 2] : List Int).map .int) from rfl, hy]
        have hy0 : 0 ≤ y := by
          simp at hy1
          omega
        exact turn_of (row_part (k := 4) e1 hir hc e2 hy0 e3 B (Nat.le_refl _))
      · exact WT_f (decide_eq_false hg5) (turn_of (row_part (k := 3) e1 hir hc e2 (Int.le_refl _) e3 B (by decide)))
  · rw [Nat.zero_add, rangeL_length] at hi
    obtain ⟨rs, cl, held, v4, v5, v6, v7, v8, v9, v10, B, e1, e2, e3, rfl⟩ := hi
    dsimp
    have hf : (rs.map recPV).all (flatN 6) = true := by
      rw [List.all_eq_true]
      intro t ht
      obtain ⟨r, _, rfl⟩ := List.mem_map.mp ht
      rfl
    rw [W_freeze_list B.row hf]
    refine q _ rs ⟨by rw [List.length_set]; exact B.fr.1, fun i h0 hi => ?_⟩ ((B.pen.set B.pos _).le (by with_reducible exact O.a28g (by assumption))) (by with_reducible exact O.a28l (by assumption) (by assumption)) (by omega) (fun k hk => e2 k (by with_reducible exact O.a28m (by assumption) (by assumption)))
    rw [set_other (by omega)]; exact B.fr.2 i h0 hi
end
end Mine.B
namespace Mine.B
set_option autoImplicit false
set_option linter.unusedVariables false
set_option linter.unusedSimpArgs false
set_option maxRecDepth 100000
set_option Elab.async false
set_option backward.defeqAttrib.useBackward true

structure Cell where
  key : Int
  adr : Nat
  es : List Ent
noncomputable def cellKvs (A : List Cell) : List (Int × PV) := A.map fun x => (x.key, .ref x.adr)
noncomputable def cellTab (A : List Cell) : Tab := A.map fun x => (x.key, x.es)
theorem kv_some {g : Int} {v : PV} : ∀ {A : List Cell}, kvGet g (cellKvs A) = some v → ∃ x ∈ A, x.key = g ∧ v = .ref x.adr
  | [], h => by simp [cellKvs, kvGet] at h
  | x :: A, h => by
    simp only [cellKvs, List.map_cons, kvGet] at h
    split at h
    · rename_i e; cases h; exact ⟨x, .head _, e.symm, rfl⟩
    · obtain ⟨y, h1, h2⟩ := kv_some (A := A) h; exact ⟨y, .tail _ h1, h2⟩
theorem kv_none {g : Int} : ∀ {A : List Cell}, kvGet g (cellKvs A) = none → (∀ x ∈ A, x.key ≠ g) ∧ ∀ v, kvPut g v (cellKvs A) = cellKvs A ++ [(g, v)]
  | [], h => ⟨by simp, fun _ => rfl⟩
  | x :: A, h => by
    simp only [cellKvs, List.map_cons, kvGet] at h
    split at h
    · cases h
    · rename_i e
      obtain ⟨h1, h2⟩ := kv_none (A := A) h
      refine ⟨fun y hy => ?_, fun v => ?_⟩
      · cases hy with
        | head => exact fun z => e z.symm
        | tail _ hy => exact h1 y hy
      · simp only [cellKvs, List.map_cons, kvPut, if_neg e, List.cons_append]
        congr 1
        exact h2 v

structure SetS (σ σ' : St) (c : Nat) (A : List Cell) : Prop where
  pen : Pen σ' c
  fr : Fr σ σ'
  pos : 0 < σ.length
  dict : σ'[σ.length]? = some (some (.dict (cellKvs A)))
  cell : ∀ x ∈ A, σ.length < x.adr ∧ σ'[x.adr]? = some (some (.list (x.es.map entV)))
  keys : (A.map (·.key)).Nodup
  adrs : (A.map (·.adr)).Nodup
section
variable {n c : Nat} {σ σ' : St} {Q : PV → St → Prop} {A : List Cell}
theorem SetS.same (B : SetS σ σ' c A) {σ₂ : St} {d : Nat} (e1 : σ₂.length = σ'.length) (e2 : ∀ i, 0 < i → σ₂[i]? = σ'[i]?) (P : Pen σ₂ d) : SetS σ σ₂ d A :=
  ⟨P, ⟨by rw [e1]; exact B.fr.1, fun i h0 hi => by rw [e2 i h0]; exact B.fr.2 i h0 hi⟩, B.pos, by rw [e2 _ B.pos]; exact B.dict, fun x hx => ⟨(B.cell x hx).1, by rw [e2 _ (by have := (B.cell x hx).1; with_reducible exact O.a34g (by assumption))]; exact (B.cell x hx).2⟩, B.keys, B.adrs⟩
theorem SetS.lt (B : SetS σ σ' c A) : σ.length < σ'.length := live_lt B.dict
theorem SetS.alloc (B : SetS σ σ' c A) (o : Option PObj) : SetS σ (σ' ++ [o]) c A := by
  have e : ∀ {j : Nat} {x}, σ'[j]? = some x → (σ' ++ [o])[j]? = some x := fun h => by rw [List.getElem?_append_left (live_lt h)]; exact h
  exact ⟨B.pen.alloc o, B.fr.alloc, B.pos, e B.dict, fun x hx => ⟨(B.cell x hx).1, e (B.cell x hx).2⟩, B.keys, B.adrs⟩
theorem SetS.other (B : SetS σ σ' c A) {G : Nat} (hG : σ.length < G) (hA : ∀ x ∈ A, x.adr ≠ G) (o : Option PObj) : SetS σ (σ'.set G o) c A :=
  ⟨B.pen.set (by with_reducible exact O.a34g (by assumption)) o, ⟨by rw [List.length_set]; exact B.fr.1, fun i h0 hi => by rw [set_other (by omega)]; exact B.fr.2 i h0 hi⟩, B.pos, by rw [set_other (by omega)]; exact B.dict, fun x hx => ⟨(B.cell x hx).1, by rw [set_other (fun z => hA x hx z.symm)]; exact (B.cell x hx).2⟩, B.keys, B.adrs⟩
theorem SetS.new (B : SetS σ σ' c A) {g : Int} {a : Nat} (ha : σ.length < a) (hA : ∀ x ∈ A, x.adr ≠ a) (hk : ∀ x ∈ A, x.key ≠ g) (hl : σ'[a]? = some (some (.list []))) :
    SetS σ (σ'.set σ.length (some (.dict (cellKvs A ++ [(g, .ref a)])))) c (A ++ [⟨g, a, []⟩]) := by
  refine ⟨B.pen.set B.pos _, ⟨by rw [List.length_set]; exact B.fr.1, fun i h0 hi => by rw [set_other (by omega)]; exact B.fr.2 i h0 hi⟩, B.pos, ?_, fun x hx => ?_, ?_, ?_⟩
  · rw [set_self B.lt]; simp [cellKvs]
  · rcases List.mem_append.mp hx with hx | hx
    · have := (B.cell x hx).1
      exact ⟨this, by rw [set_other (by omega)]; exact (B.cell x hx).2⟩
    · cases hx with
      | head => exact ⟨ha, by rw [set_other (show σ.length ≠ a by omega)]; exact hl⟩
      | tail _ h => cases h
  · rw [List.map_append, List.nodup_append]
    refine ⟨B.keys, by simp, fun x hx y hy => ?_⟩
    obtain ⟨z, hz, rfl⟩ := List.mem_map.mp hx
    simp at hy
    subst hy
    exact hk z hz
  · rw [List.map_append, List.nodup_append]
    refine ⟨B.adrs, by simp, fun x hx y hy => ?_⟩
    obtain ⟨z, hz, rfl⟩ := List.mem_map.mp hx
    simp at hy
    subst hy
    exact hA z hz
noncomputable def addE (a : Nat) (e : Ent) (A : List Cell) : List Cell := A.map fun x => if x.adr = a then ⟨x.key, x.adr, x.es ++ [e]⟩ else x
theorem addE_keys {a : Nat} {e : Ent} : (addE a e A).map (·.key) = A.map (·.key) := by
  unfold addE
  rw [List.map_map]
  apply List.map_congr_left
  intro x _
  simp only [Function.comp]
  split <;> rfl
theorem addE_adrs {a : Nat} {e : Ent} : (addE a e A).map (·.adr) = A.map (·.adr) := by
  unfold addE
  rw [List.map_map]
  apply List.map_congr_left
  intro x _
  simp only [Function.comp]
  split <;> rfl
theorem addE_kvs {a : Nat} {e : Ent} : cellKvs (addE a e A) = cellKvs A := by
  unfold addE cellKvs
  rw [List.map_map]
  apply List.map_congr_left
  intro x _
  simp only [Function.comp]
  split <;> rfl
theorem nodup_adr : ∀ {A : List Cell}, (A.map (·.adr)).Nodup → ∀ {x y : Cell}, x ∈ A → y ∈ A → x.adr = y.adr → x = y
  | z :: A, h, x, y, hx, hy, e => by
    rw [List.map_cons, List.nodup_cons] at h
    cases hx with
    | head => cases hy with
      | head => rfl
      | tail _ hy => exact absurd (List.mem_map.mpr ⟨y, hy, e.symm⟩) h.1
    | tail _ hx => cases hy with
      | head => exact absurd (List.mem_map.mpr ⟨x, hx, e⟩) h.1
      | tail _ hy => exact nodup_adr h.2 hx hy e
theorem SetS.add (B : SetS σ σ' c A) {x : Cell} (hx : x ∈ A) (e : Ent) : SetS σ (σ'.set x.adr (some (.list ((x.es ++ [e]).map entV)))) c (addE x.adr e A) := by
  have h1 := (B.cell x hx).1
  have hlt := live_lt (B.cell x hx).2
  refine ⟨B.pen.set (by with_reducible exact O.a34g (by assumption)) _, ⟨by rw [List.length_set]; exact B.fr.1, fun i h0 hi => by rw [set_other (by omega)]; exact B.fr.2 i h0 hi⟩, B.pos, ?_, fun y hy => ?_, by rw [addE_keys]; exact B.keys, by rw [addE_adrs]; exact B.adrs⟩
  · rw [set_other (by omega), addE_kvs]; exact B.dict
  · obtain ⟨z, hz, rfl⟩ := List.mem_map.mp hy
    by_cases e2 : z.adr = x.adr
    · have := nodup_adr B.adrs hz hx e2
      subst this
      rw [if_pos rfl]
      exact ⟨h1, set_self hlt⟩
    · rw [if_neg e2]
      exact ⟨(B.cell z hz).1, by rw [set_other (fun z => e2 z.symm)]; exact (B.cell z hz).2⟩
theorem ent_flat {es : List Ent} : (es.map entV).all (flatN 5) = true := by
  rw [List.all_eq_true]
  intro t ht
  obtain ⟨e, _, rfl⟩ := List.mem_map.mp ht
  show ((e.1.map .int).all (flatN 3) && (true && true)) = true
  rw [show (e.1.map PV.int).all (flatN 3) = true from flat_ints 3 (fun x => x) e.1]
  rfl
theorem freeze_cells : ∀ {A : List Cell} {σ' : St} {Q : List (Int × PV) → St → Prop}, (A.map (·.adr)).Nodup → (∀ x ∈ A, σ.length < x.adr ∧ σ'[x.adr]? = some (some (.list (x.es.map entV)))) →
    (∀ σ₂ : St, σ₂.length = σ'.length → (∀ i, i ≤ σ.length → σ₂[i]? = σ'[i]?) → Q (tabKvs (cellTab A)) σ₂) → W (mapK (freeze 8) (cellKvs A)) σ' Q
  | [], σ', Q, _, _, q => by
    simp only [cellKvs, List.map_nil, mapK_nil, W_pure]
    exact q σ' rfl fun _ _ => rfl
  | x :: A, σ', Q, hs, h, q => by
    rw [List.map_cons, List.nodup_cons] at hs
    simp only [cellKvs, List.map_cons, mapK_cons, W_bind]
    rw [W_freeze_list (h x (.head _)).2 ent_flat]
    refine freeze_cells (A := A) hs.2 (fun y hy => ⟨(h y (.tail _ hy)).1, ?_⟩) fun σ₂ e1 e2 => ?_
    · rw [set_other (fun z => hs.1 (List.mem_map.mpr ⟨y, hy, z.symm⟩))]
      exact (h y (.tail _ hy)).2
    · simp only [W_pure]
      refine q σ₂ (by rw [e1, List.length_set]) fun i hi => ?_
      rw [e2 i hi, set_other (by have := (h x (.head _)).1; omega)]
end
end Mine.B
namespace Mine.B
set_option autoImplicit false
set_option linter.unusedVariables false
set_option linter.unusedSimpArgs false
set_option maxRecDepth 100000
set_option Elab.async false
set_option backward.defeqAttrib.useBackward true

theorem W_setdefault_k {i : Nat} {kvs : List (Int × PV)} {σ : St} {Q : Option Fn → St → Prop} (h : σ[i]? = some (some (.dict kvs))) : W (methK .setdefault (.ref i)) σ Q ↔ Q none σ := by
  exact W_get (Q := fun ob σ => W (M.onDict ob fun _ => M.pure none) σ Q) h
theorem W_setdefault_some {i : Nat} {kvs : List (Int × PV)} {k : Int} {v d : PV} {σ : St} {Q : PV → St → Prop} (h : σ[i]? = some (some (.dict kvs))) (hk : kvGet k kvs = some v) : W (methV .setdefault (.ref i) [.int k, d]) σ Q ↔ Q v σ := by
  refine (W_get (Q := fun ob σ => W (M.onDict ob fun kvs => setD i k d kvs (kvGet k kvs)) σ Q) h).trans ?_
  show W (setD i k d kvs (kvGet k kvs)) σ Q ↔ _
  rw [hk]
  exact Iff.rfl
theorem W_setdefault_none {i : Nat} {kvs : List (Int × PV)} {k : Int} {d : PV} {σ : St} {Q : PV → St → Prop} (h : σ[i]? = some (some (.dict kvs))) (hk : kvGet k kvs = none) (hl : kvs.length < LIM) : W (methV .setdefault (.ref i) [.int k, d]) σ Q ↔ Q d (σ.set i (some (.dict (kvPut k d kvs)))) := by
  refine (W_get (Q := fun ob σ => W (M.onDict ob fun kvs => setD i k d kvs (kvGet k kvs)) σ Q) h).trans ?_
  show W (setD i k d kvs (kvGet k kvs)) σ Q ↔ _
  rw [hk]
  exact Eq.to_iff (fit_lim hl)
theorem W_slice_from1 {σ : St} {L : Nat} {vs : List PV} {Q : PV → St → Prop} (h : σ[L]? = some (some (.list vs))) (h1 : 1 ≤ vs.length) (hn : vs.length < LIM) : W (sliceV (.ref L) (.int 1) .none) σ Q ↔ Q (.lst (vs.drop 1)) σ := by
  have := sliceL_of (vs := vs) (a := 1) (b := vs.length) (x := .int 1) (y := .none) (boundL_nat (k := 1) h1 hn) rfl
  refine (W_get (Q := fun o σ => W (M.onList o fun vs => M.ofOpt ((sliceL vs (.int 1) .none).map PV.lst)) σ Q) h).trans ?_
  show W (M.ofOpt ((sliceL vs (.int 1) .none).map PV.lst)) σ Q ↔ _
  rw [this]
  simp

section
variable {n c : Nat} {σ σ' : St} {Q : PV → St → Prop} {A : List Cell} {rs : List Rec}
theorem SetS.draw (B : SetS σ σ' c A) (hc : c < 1000) {many : Nat} (h1 : 0 < many) (h2 : many < 1000) (q : ∀ σ₂ (d : Nat), SetS σ σ₂ (c + 1) A → σ₂.length = σ'.length → (∀ i, 0 < i → σ₂[i]? = σ'[i]?) → d < many → Q (.int d) σ₂) : W (callN D (n + 1) .law_draw [.ref 0, .int many]) σ' Q :=
  p_law_draw B.pen (by with_reducible exact O.a13f (by assumption)) h1 h2 fun σ₂ d e1 e2 P hd => q σ₂ d (B.same e1 e2 P) e1 e2 hd

noncomputable def envS (rs : List Rec) (A i : Nat) (start : Int) (G : Nat) (v6 v7 : Option PV) : Env := [some (.ref 0), some (.lst (rs.map recPV)), some (.ref A), some (.int i), some (.int start), some (.ref G), v6, v7]
noncomputable def SetI (σ : St) (rs : List Rec) (c i : Nat) (ρ : Env) (σ' : St) : Prop := ∃ (A : List Cell) (v3 v4 v5 v6 v7 : Option PV), SetS σ σ' (c + 1 + 10 * i) A ∧ (∀ x ∈ A, x.es.length ≤ i ∧ ∀ e ∈ x.es, e.1.length < 10) ∧ A.length ≤ i ∧
      ρ = [some (.ref 0), some (.lst (rs.map recPV)), some (.ref σ.length), v3, v4, v5, v6, v7]
noncomputable def GlyI (σ : St) (rs : List Rec) (A : List Cell) (c i : Nat) (start : Int) (G j : Nat) (ρ : Env) (σ' : St) : Prop := ∃ (gl : List Int) (v6 v7 : Option PV), SetS σ σ' (c + j) A ∧ gl.length = j ∧ σ'[G]? = some (some (.list (gl.map .int))) ∧
        ρ = envS rs σ.length i start G v6 v7
noncomputable def glyTl : List PS := [(.expr (.meth (.var 5) .append [(.sub (.sub (.var 1) (.bin .mod (.var 7) (.callB .len [(.var 1)]))) (.int 0))]))]
theorem gly_push {C : Fn → List PV → M PV} (hL : rs.length < LIM) (h0 : 0 < rs.length) {i G j : Nat} {start : Int} (hG : σ.length < G) (hGA : ∀ x ∈ A, x.adr ≠ G) {gl : List Int} (g1 : gl.length = j) (hj : j < 100) {σ₆ : St} {b : Int} (B₆ : SetS σ σ₆ (c + (j + 1)) A) (g6 : σ₆[G]? = some (some (.list (gl.map .int)))) :
    W (execL C glyTl (envS rs σ.length i start G (some (.int j)) (some (.int (start + j + b))))) σ₆ (fun p σ₇ => p.1 = .next ∧ GlyI σ rs A c i start G (j + 1) p.2 σ₇) := by
  have hI : (0 : Int) < rs.length := Int.ofNat_lt.mpr h0
  dsimp [glyTl, envS]
  rw [W_append_k g6]
  dsimp
  rw [List.length_map, bv_mod hI]
  obtain ⟨x, hx⟩ : ∃ x : Nat, (x : Int) = (start + j + b) % rs.length := ⟨((start + j + b) % rs.length).toNat, Int.toNat_of_nonneg (Int.emod_nonneg _ (Int.ne_of_gt hI))⟩
  have hxl : x < rs.length := Int.ofNat_lt.mp (hx ▸ Int.emod_lt_of_pos _ hI)
  dsimp
  rw [← hx, sub_row hxl hL]
  dsimp
  rw [W_append g6 (by rw [List.length_map]; exact lim_small (by with_reducible exact O.a13j (by assumption) (by assumption)))]
  refine ⟨rfl, gl ++ [(rg rs x).g], _, _, B₆.other hG hGA _, by rw [List.length_append, g1]; rfl, ?_, rfl⟩
  rw [set_self (live_lt g6), List.map_append]
  rfl
theorem sets_push {C : Fn → List PV → M PV} {i G : Nat} {start : Int} {v6 v7 : Option PV} {g : Int} {gr : List Int} (hi : i < 4) (hgr : gr.length < 4) {σ₇ : St} {A' : List Cell} {x : Cell} {c' : Nat} (B₇ : SetS σ σ₇ c' A') (hc' : c' ≤ c + 1 + 10 * (i + 1)) (hx : x ∈ A') (g7 : σ₇[G]? = some (some (.list ((g :: gr).map .int)))) (h1 : ∀ x ∈ A', x.es.length ≤ i ∧ ∀ e ∈ x.es, e.1.length < 10) (h2 : A'.length ≤ i + 1) :
    W (methK .append (.ref x.adr)) σ₇ (kMeth2 C .append (.ref x.adr) [.tup [.callB .tuple [.slice (.var 5) (.int 1) .none], .bin .add (.int 10) (.var 3)]] (envS rs σ.length i start G v6 v7) fun _ σ₁ => SetI σ rs c (i + 1) (envS rs σ.length i start G v6 v7) σ₁) := by
  have hx2 := (B₇.cell x hx).2
  rw [W_append_k hx2]
  dsimp [envS]
  rw [W_slice_from1 g7 (Nat.le_of_ble_eq_true rfl) (lim_small (by rw [List.length_map]; show gr.length + 1 < 1000; with_reducible exact O.a13d (by assumption)))]
  dsimp
  rw [W_append hx2 (lim_small (by rw [List.length_map]; have := (h1 x hx).1; with_reducible exact O.a13k (by assumption) (by assumption)))]
  have B₈ := B₇.add hx (gr, 10 + i)
  have B₉ := B₈.same (d := c + 1 + 10 * (i + 1)) rfl (fun _ _ => rfl) (B₈.pen.le hc')
  rw [List.map_append] at B₉
  refine ⟨_, _, _, _, _, _, B₉, fun y hy => ?_, by rw [addE, List.length_map]; exact h2, rfl⟩
  obtain ⟨z, hz, rfl⟩ := List.mem_map.mp hy
  have hz1 := h1 z hz
  by_cases e : z.adr = x.adr
  · rw [if_pos e]
    refine ⟨by rw [List.length_append]; exact Nat.succ_le_succ hz1.1, fun e he => ?_⟩
    rcases List.mem_append.mp he with he | he
    · exact hz1.2 e he
    · cases he with
      | head => exact Nat.lt_of_lt_of_le hgr (by decide)
      | tail _ h => cases h
  · rw [if_neg e]
    exact ⟨Nat.le_succ_of_le hz1.1, hz1.2⟩
theorem set_c {c i : Nat} (hc : c < 200) (hi : i < 4) (k : Nat) (hk : k < 100 := by decide) : c + 1 + 10 * i + k < 1000 := by with_reducible exact O.a27 (by assumption) (by assumption) (by assumption)

theorem p_law_sets (h : Pen σ c) (hc : c < 200) (hn : rs.length < 10) (h0 : 0 < rs.length) (q : ∀ σ' (T : Tab), Fr σ σ' → Pen σ' (c + 100) → (T.map (·.1)).Nodup → T.length < 10 → (∀ x ∈ T, x.2.length < 10 ∧ ∀ e ∈ x.2, e.1.length < 10) → Q (.dct (tabKvs T)) σ') :
    W (callN D (n + 2) .law_sets [.ref 0, .lst (rs.map recPV)]) σ Q := by
  have hL : rs.length < LIM := lim_small (by with_reducible exact O.a13b (by assumption))
  refine W_callD (d := d_law_sets) (ρ := [some (.ref 0), some (.lst (rs.map recPV)), none, none, none, none, none, none]) rfl rfl ?_
  dsimp [d_law_sets]
  have B0 : SetS σ (σ ++ [some (.dict [])]) c [] := ⟨h.alloc _, Fr.refl.alloc, h.pos, by simp [cellKvs], by simp, by simp, by simp⟩
  refine B0.draw (n := n) (many := 4) (by with_reducible exact O.a13e (by assumption)) (by decide) (by decide) fun σ₁ d B₁ _ _ hd => ?_
  dsimp
  rw [bi_range1 (fits_small (by with_reducible exact O.a14f) (by omega))]
  dsimp
  refine W_forL (SetI σ rs c) _ 0 _ _ (fun i ρ σ' t ht hi => ?_) (fun ρ σ' hi => ?_) ⟨[], none, none, none, none, none, B₁, by simp, Nat.le_refl _, rfl⟩
  · rw [Nat.zero_add] at hi ⊢
    obtain ⟨A, v3, v4, v5, v6, v7, B, e1, e2, rfl⟩ := hi
    obtain ⟨rfl, hir⟩ := rangeL_at ht
    rw [Int.zero_add]
    have hir : i < 4 := by with_reducible exact O.a28n (by assumption) (by assumption)
    clear ht hd B₁ B0
    dsimp
    rw [List.length_map]
    refine B.draw (n := n) (many := rs.length) (set_c hc hir 0) h0 (by with_reducible exact O.a13b (by assumption)) fun σ₂ start B₂ e3 e4 hstart => ?_
    dsimp
    have hGs := B₂.lt
    have hGA : ∀ x ∈ A, x.adr ≠ σ₂.length := fun x hx => Nat.ne_of_lt (live_lt (B₂.cell x hx).2)
    have B₃ := B₂.alloc (some (.list []))
    have hG : (σ₂ ++ [some (PObj.list [])])[σ₂.length]? = some (some (.list [])) := List.getElem?_concat_length
    generalize σ₂ ++ [some (PObj.list [])] = σ₃ at B₃ hG ⊢
    generalize σ₂.length = G at hGs hGA hG ⊢
    refine B₃.draw (n := n) (many := 4) (set_c hc hir 1) (by decide) (by decide) fun σ₄ m B₄ e5 e6 hm => ?_
    clear e3 e4 hstart e5
    dsimp
    rw [bi_range1 (fits_small (by with_reducible exact O.a14f) (by omega))]
    dsimp
    refine W_forL (GlyI σ rs A (c + 1 + 10 * i + 2) i start G) _ 0 _ _ (fun j ρ σ₅ t ht hj => ?_) (fun ρ σ₅ hj => ?_) ⟨[], _, _, B₄, rfl, by rw [e6 _ (by with_reducible exact O.a34g (by assumption))]; exact hG, rfl⟩
    · rw [Nat.zero_add] at hj ⊢
      obtain ⟨gl, v6, v7, B₅, g1, g2, rfl⟩ := hj
      obtain ⟨rfl, hjr⟩ := rangeL_at ht
      rw [Int.zero_add]
      have hjr : j < 4 := by with_reducible exact O.a28n (by assumption) (by assumption)
      have hj100 : j < 100 := by omega
      clear ht B₄ B₃ e6 hm hG
      generalize After (callN D (n + 1)) _ (Turn (SetI σ rs c (i + 1)) _) = QQ
      have hd1 : c + 1 + 10 * i + 2 + j < 1000 := by with_reducible exact O.a27a (by assumption) (by assumption) (by assumption) (by assumption)
      have B₅' := B₅.same (d := c + 1 + 10 * i + 2 + (j + 1)) rfl (fun _ _ => rfl) (B₅.pen.le (Nat.le_succ _))
      dsimp [envS]
      by_cases hj0 : 0 < j
      · have hjI : (0 : Int) < j := Int.ofNat_lt.mpr hj0
        refine WT_t (decide_eq_true hjI) ?_
        refine B₅.draw (n := n) (many := 4) hd1 (by decide) (by decide) fun σ₆ d B₆ f5 f6 hd => ?_
        have g6 : σ₆[G]? = some (some (.list (gl.map .int))) := by rw [f6 _ (by with_reducible exact O.a34g (by assumption))]; exact g2
        dsimp
        rw [cv_eq]
        dsimp
        by_cases hd0 : (d : Int) = 0
        · exact WT_t (decide_eq_true hd0) (turn_of (Q := QQ) (gly_push hL h0 hGs hGA g1 hj100 B₆ g6))
        · exact WT_f (decide_eq_false hd0) (turn_of (Q := QQ) (gly_push hL h0 hGs hGA g1 hj100 B₆ g6))
      · have hjI : ¬ (0 : Int) < j := fun z => hj0 (Int.ofNat_lt.mp z)
        exact WT_f (decide_eq_false hjI) (WT_f (decide_eq_false hjI) (turn_of (Q := QQ) (gly_push hL h0 hGs hGA g1 hj100 B₅' g2)))
    · rw [Nat.zero_add, rangeL_length] at hj
      obtain ⟨gl, v6, v7, B₅, g1, g2, rfl⟩ := hj
      have hgl : 0 < gl.length ∧ gl.length < 5 := by with_reducible exact O.a28i (by assumption) (by assumption)
      have hcb : c + 1 + 10 * i + 2 + (((1 : Int) + (m : Int)) - 0).toNat ≤ c + 1 + 10 * (i + 1) := by with_reducible exact O.a28j (by assumption) (by assumption)
      clear B₄ B₃ e6 hm hG g1 B
      obtain ⟨g, gr, rfl⟩ : ∃ g gr, gl = g :: gr := by
        cases gl with
        | nil => exact absurd hgl.1 (Nat.lt_irrefl _)
        | cons g gr => exact ⟨g, gr, rfl⟩
      have hgl5 : gr.length < 4 := Nat.lt_of_succ_lt_succ hgl.2
      have hlen : ((g :: gr).map PV.int).length < LIM := lim_small (by rw [List.length_map]; with_reducible exact O.a13l (by assumption))
      dsimp [envS]
      rw [W_setdefault_k B₅.dict]
      dsimp
      rw [show (0 : Int) = ((0 : Nat) : Int) from rfl, W_sub_ref g2 (v := .int g) rfl hlen]
      dsimp
      have B₆ := B₅.alloc (some (.list []))
      have g6 : (σ₅ ++ [some (PObj.list [])])[G]? = some (some (.list ((g :: gr).map .int))) := by rw [List.getElem?_append_left (live_lt g2)]; exact g2
      have n6 : (σ₅ ++ [some (PObj.list [])])[σ₅.length]? = some (some (.list [])) := List.getElem?_concat_length
      have a6 : ∀ x ∈ A, x.adr ≠ σ₅.length := fun x hx => Nat.ne_of_lt (live_lt (B₅.cell x hx).2)
      have l6 := B₅.lt
      have hGn : G ≠ σ₅.length := Nat.ne_of_lt (live_lt g2)
      generalize σ₅ ++ [some (PObj.list [])] = σ₆ at B₆ g6 n6 ⊢
      generalize σ₅.length = new at n6 a6 l6 hGn ⊢
      clear g2 B₅
      cases hk : kvGet g (cellKvs A) with
      | some v =>
        rw [W_setdefault_some B₆.dict hk]
        obtain ⟨x, hx, _, rfl⟩ := kv_some hk
        exact sets_push hir hgl5 B₆ hcb hx g6 e1 (Nat.le_succ_of_le e2)
      | none =>
        obtain ⟨k1, k2⟩ := kv_none hk
        rw [W_setdefault_none B₆.dict hk (by unfold cellKvs; rw [List.length_map]; exact lim_small (by with_reducible exact O.a13k (by assumption) (by assumption))), k2]
        have B₇ := B₆.new l6 a6 k1 n6
        refine sets_push (x := ⟨g, new, []⟩) hir hgl5 B₇ hcb (List.mem_append.mpr (.inr (.head _))) (by rw [set_other (by omega)]; exact g6) (fun x hx => ?_) (by rw [List.length_append]; exact Nat.succ_le_succ e2)
        rcases List.mem_append.mp hx with hx | hx
        · exact e1 x hx
        · cases hx with
          | head => exact ⟨Nat.zero_le _, fun e he => nomatch he⟩
          | tail _ h => cases h
  · rw [Nat.zero_add, rangeL_length] at hi
    obtain ⟨A, v3, v4, v5, v6, v7, B, e1, e2, rfl⟩ := hi
    dsimp
    refine (W_get (Q := fun o σ => W (frzO (freeze 8) _ o) σ _) B.dict).mpr ?_
    show W (M.bind (M.erase _) fun _ => M.bind (mapK (freeze 8) _) fun us => M.pure (PV.dct us)) _ _
    simp only [W_bind, W_erase]
    refine freeze_cells (σ := σ) B.adrs (fun x hx => ⟨(B.cell x hx).1, by rw [set_other (by have := (B.cell x hx).1; omega)]; exact (B.cell x hx).2⟩) fun σ₂ f1 f2 => ?_
    have hlt := B.lt
    have hpos := B.pos
    simp only [W_pure]
    refine q σ₂ (cellTab A) ⟨by rw [f1, List.length_set]; exact B.fr.1, fun i h0 hi => by rw [f2 i (by with_reducible exact O.a34b (by assumption)), set_other (by omega)]; exact B.fr.2 i h0 hi⟩ ?_ ?_ ?_ ?_
    · obtain ⟨ds, i, acc, p1, p2, p3, p4, p5⟩ := B.pen.out
      exact ⟨ds, i, acc, by rw [f2 0 (by with_reducible exact O.a34b (by assumption)), set_other (by omega)]; exact p1, p2, p3, p4, by with_reducible exact O.a28h (by assumption) (by assumption)⟩
    · have := B.keys
      unfold cellTab
      rw [List.map_map]
      exact this
    · rw [cellTab, List.length_map]; with_reducible exact O.a28k (by assumption) (by assumption)
    · intro x hx
      obtain ⟨y, hy, rfl⟩ := List.mem_map.mp hx
      have := e1 y hy
      exact ⟨by show y.es.length < 10; omega, this.2⟩
end
end Mine.B
namespace Mine.B
set_option autoImplicit false
set_option linter.unusedVariables false
set_option linter.unusedSimpArgs false
set_option maxRecDepth 100000
set_option Elab.async false
set_option backward.defeqAttrib.useBackward true

section
variable {σ : St} {c : Cl} {fs : List (At × PV)} {a : At} {v : PV} {r : Rec} {x : Int} {k : SK}
theorem top_get {o : Option PObj} : (σ ++ [o])[σ.length]? = some o := by simp
theorem top_set {o o' : Option PObj} : (σ ++ [o]).set σ.length o' = σ ++ [o'] := by simp
theorem W_setTop {Q : Unit → St → Prop} : W (setAttrV (.ref σ.length) a v) (σ ++ [some (.inst c fs)]) Q ↔ Q () (σ ++ [some (.inst c (fPut a v fs))]) := by
  rw [W_setAttr top_get, top_set]
@[simp] theorem fP3 : fPut .mask (.int x) (infF r) = infF { r with m := x } := rfl
@[simp] theorem fP4 : fPut .kind (.str k) (infF r) = infF { r with k := k } := rfl
end
section
variable {n : Nat} {σ : St} {Q : PV → St → Prop}
theorem p_init_info {cd g c : Int} (q : Q .none (σ ++ [some (.inst .info (infF ⟨cd, g, c, 0, .empty, 0, 0, 0, false, 0⟩))])) :
    W (callN D (n + 1) (.init .info) [.ref σ.length, .int cd, .int g, .int c]) (σ ++ [some (.inst .info [])]) Q := by
  refine W_callD (d := d_init_info) (ρ := [some (.ref σ.length), some (.int cd), some (.int g), some (.int c)]) rfl rfl ?_
  dsimp [d_init_info]
  rw [W_setTop]
  dsimp [fPut]
  rw [W_setTop]
  dsimp [fPut]
  rw [W_setTop]
  dsimp [fPut]
  rw [W_setTop]
  dsimp [fPut]
  rw [W_setTop]
  dsimp [fPut]
  rw [W_setTop]
  dsimp [fPut]
  rw [W_setTop]
  dsimp [fPut]
  rw [W_setTop]
  dsimp [fPut]
  rw [W_setTop]
  dsimp [fPut]
  rw [W_setTop]
  dsimp [fPut]
  rw [W_setTop]
  dsimp [fPut]
  rw [W_setTop]
  dsimp [fPut]
  rw [W_setTop]
  dsimp [fPut]
  rw [W_setTop]
  dsimp [fPut]
  rw [W_setTop]
  dsimp [fPut]
  rw [W_setTop]
  dsimp [fPut]
  exact q
theorem p_init_buffer {L : Nat} (q : Q .none (σ ++ [some (.inst .buffer (bufF L 0))])) :
    W (callN D (n + 1) (.init .buffer) [.ref σ.length, .ref L]) (σ ++ [some (.inst .buffer [])]) Q := by
  refine W_callD (d := d_init_buffer) (ρ := [some (.ref σ.length), some (.ref L), some (.bool false)]) rfl rfl ?_
  dsimp [d_init_buffer]
  rw [W_setTop]
  dsimp [fPut]
  rw [W_setTop]
  dsimp [fPut]
  rw [W_setTop]
  dsimp [fPut]
  rw [W_setTop]
  dsimp [fPut]
  exact q
theorem p_init_classdef {v : PV} (q : Q .none (σ ++ [some (.inst .classdef [(.classes, v)])])) :
    W (callN D (n + 1) (.init .classdef) [.ref σ.length, v]) (σ ++ [some (.inst .classdef [])]) Q := by
  refine W_callD (d := d_init_classdef) (ρ := [some (.ref σ.length), some v]) rfl rfl ?_
  dsimp [d_init_classdef]
  rw [W_setTop]
  dsimp [fPut]
  exact q
theorem p_init_ligature {v : PV} (q : Q .none (σ ++ [some (.inst .ligature [(.sets, v)])])) :
    W (callN D (n + 1) (.init .ligature) [.ref σ.length, v]) (σ ++ [some (.inst .ligature [])]) Q := by
  refine W_callD (d := d_init_ligature) (ρ := [some (.ref σ.length), some v]) rfl rfl ?_
  dsimp [d_init_ligature]
  rw [W_setTop]
  dsimp [fPut]
  exact q
theorem p_init_lookup {v1 v2 v3 v4 : PV} (q : Q .none (σ ++ [some (.inst .lookup [(.kind, v1), (.flag, v2), (.mark_set, v3), (.tables, v4)])])) :
    W (callN D (n + 1) (.init .lookup) [.ref σ.length, v1, v2, v3, v4]) (σ ++ [some (.inst .lookup [])]) Q := by
  refine W_callD (d := d_init_lookup) (ρ := [some (.ref σ.length), some v1, some v2, some v3, some v4]) rfl rfl ?_
  dsimp [d_init_lookup]
  rw [W_setTop]
  dsimp [fPut]
  rw [W_setTop]
  dsimp [fPut]
  rw [W_setTop]
  dsimp [fPut]
  rw [W_setTop]
  dsimp [fPut]
  exact q
theorem p_init_scene {v1 v2 v3 v4 v5 : PV} (q : Q .none (σ ++ [some (.inst .scene [(.buffer, v1), (.gdef, v2), (.lookups, v3), (.lookup, v4), (.mask, v5), (.depth, .int 0), (.steps, .lst [.int 0])])])) :
    W (callN D (n + 1) (.init .scene) [.ref σ.length, v1, v2, v3, v4, v5]) (σ ++ [some (.inst .scene [])]) Q := by
  refine W_callD (d := d_init_scene) (ρ := [some (.ref σ.length), some v1, some v2, some v3, some v4, some v5, some (.int 0)]) rfl rfl ?_
  dsimp [d_init_scene]
  rw [W_setTop]
  dsimp [fPut]
  rw [W_setTop]
  dsimp [fPut]
  rw [W_setTop]
  dsimp [fPut]
  rw [W_setTop]
  dsimp [fPut]
  rw [W_setTop]
  dsimp [fPut]
  rw [W_setTop]
  dsimp [fPut]
  rw [W_setTop]
  dsimp [fPut]
  exact q
theorem p_init_gdef {v1 v2 v3 : PV} (q : Q .none (σ ++ [some (.inst .gdef [(.classes, v1), (.attach, v2), (.sets, v3), (.points, .dct []), (.carets, .dct [])])])) :
    W (callN D (n + 1) (.init .gdef) [.ref σ.length, v1, v2, v3]) (σ ++ [some (.inst .gdef [])]) Q := by
  refine W_callD (d := d_init_gdef) (ρ := [some (.ref σ.length), some v1, some v2, some v3, some .none, some .none]) rfl rfl ?_
  dsimp [d_init_gdef]
  have e : cmpV .is .none .none = some true := rfl
  rw [W_setTop]
  dsimp [fPut]
  rw [W_setTop]
  dsimp [fPut]
  rw [W_setTop]
  dsimp [fPut]
  rw [e]
  dsimp [kvPutAll]
  rw [W_setTop]
  dsimp [fPut]
  rw [e]
  dsimp [kvPutAll]
  rw [W_setTop]
  exact q

theorem p_law_infos {rs : List Rec} (hn : rs.length < 150) (hcd : ∀ k, k < rs.length → (rg rs k).cd = 1000 + k)
    (q : ∀ σ', σ'.length = σ.length + 1 + rs.length → σ'[σ.length]? = some (some (.list (refs σ.length rs.length))) → (∀ k, k < rs.length → σ'[σ.length + 1 + k]? = some (some (.inst .info (infF (rg rs k))))) → Q (.ref σ.length) σ') :
    W (callN D (n + 2) .law_infos [.lst (rs.map recPV)]) σ Q := by
  have hL : rs.length < LIM := lim_small (by with_reducible exact O.a13 (by assumption))
  refine W_callD (d := d_law_infos) (ρ := [some (.lst (rs.map recPV)), none, none, none]) rfl rfl ?_
  dsimp [d_law_infos]
  rw [List.length_map, bi_range1 (fits_small (by with_reducible exact O.a14c) (by with_reducible exact O.a14b (by assumption)))]
  dsimp
  obtain ⟨I, hI⟩ : ∃ I : Nat → Env → St → Prop, ∀ i ρ σ', I i ρ σ' ↔ ∃ (v2 v3 : Option PV), σ'.length = σ.length + 1 + i ∧ σ'[σ.length]? = some (some (.list (refs σ.length i))) ∧ (∀ k, k < i → σ'[σ.length + 1 + k]? = some (some (.inst .info (infF (rg rs k))))) ∧
      ρ = [some (.lst (rs.map recPV)), some (.ref σ.length), v2, v3] := ⟨_, fun _ _ _ => Iff.rfl⟩
  refine W_forL I _ 0 _ _ (fun i ρ σ' t ht hi => ?_) (fun ρ σ' hi => ?_) ((hI _ _ _).mpr ⟨none, none, by simp, by simp [refs], fun k hk => by omega, rfl⟩)
  · rw [Nat.zero_add] at hi ⊢
    obtain ⟨v2, v3, g1, g2, g3, rfl⟩ := (hI _ _ _).mp hi
    obtain ⟨rfl, hir⟩ := rangeL_at ht
    have hir : i < rs.length := by with_reducible exact O.a28p (by assumption)
    rw [Int.zero_add]
    dsimp
    rw [sub_row hir hL]
    dsimp
    rw [sub_row hir hL]
    dsimp
    refine p_init_info ?_
    dsimp
    rw [sub_row hir hL]
    dsimp
    rw [W_setTop]
    dsimp
    rw [sub_row hir hL]
    dsimp
    rw [W_setTop]
    dsimp
    rw [sub_row hir hL]
    dsimp
    rw [W_setTop]
    dsimp
    rw [sub_row hir hL]
    dsimp
    rw [W_setTop]
    dsimp
    rw [sub_row hir hL]
    dsimp
    rw [W_setTop]
    dsimp
    rw [sub_row hir hL]
    dsimp
    rw [W_setTop]
    dsimp
    rw [sub_row hir hL]
    dsimp
    rw [W_setTop]
    dsimp
    have hcd := hcd i hir
    have er : infF (((((((⟨1000 + i, (rg rs i).g, (rg rs i).c, (rg rs i).m, (rg rs i).k, 0, 0, 0, false, 0⟩ : Rec).sid (rg rs i).id).spt (rg rs i).part).scn (rg rs i).cnt).su (rg rs i).u).ssp (rg rs i).sp)) = infF (rg rs i) := by
      rw [← hcd]
      rfl
    rw [er]
    have g2' : (σ' ++ [some (PObj.inst .info (infF (rg rs i)))])[σ.length]? = some (some (.list (refs σ.length i))) := by rw [List.getElem?_append_left (live_lt g2)]; exact g2
    rw [W_append_k g2']
    dsimp
    rw [W_append g2' (by rw [refs_len]; exact lim_small (by omega))]
    refine (hI _ _ _).mpr ⟨_, _, by simp; omega, ?_, fun k hk => ?_, rfl⟩
    · rw [set_self (live_lt g2'), refs_push, g1]
    · rw [set_other (by with_reducible exact O.a11)]
      by_cases h : k < i
      · rw [List.getElem?_append_left (by omega)]; exact g3 k h
      · have : k = i := by with_reducible exact O.a7' (by assumption) (by assumption)
        subst this
        rw [← g1, top_get]
  · rw [Nat.zero_add, rangeL_length] at hi
    obtain ⟨v2, v3, g1, g2, g3, rfl⟩ := (hI _ _ _).mp hi
    have en : ((rs.length : Int) - 0).toNat = rs.length := by with_reducible exact O.a21
    rw [en] at g1 g2 g3
    exact q σ' g1 g2 g3
end
end Mine.B
namespace Mine.B
set_option autoImplicit false
set_option linter.unusedVariables false
set_option linter.unusedSimpArgs false
set_option maxRecDepth 100000
set_option Elab.async false
set_option backward.defeqAttrib.useBackward true

theorem slice_40 {vs : List PV} : sliceV (.lst vs) .none (.int 40) = M.pure (.lst (vs.take 40)) := by
  show M.ofOpt ((sliceL vs .none (.int 40)).map PV.lst) = _
  rw [sliceL_of (a := 0) (b := min 40 vs.length) rfl rfl]
  show M.pure (PV.lst (vs.take (min 40 vs.length))) = _
  rw [List.take_eq_take_iff.mpr]
  with_reducible exact O.a16c

theorem beq_same {α : Type} [DecidableEq α] (a : α) : some (a == a) = some true := congrArg some (beq_self_eq_true a)
theorem pvsEq_refl {vs : List PV} (h : ∀ v ∈ vs, pvEq v v = some true) : pvsEq vs vs = some true := by
  induction vs with
  | nil => rfl
  | cons v r ih =>
    show and2 (pvEq v v) (pvsEq r r) = _
    rw [h v (.head _), ih fun x hx => h x (.tail _ hx)]
    rfl
theorem pvEq_refl (n : Nat) : ∀ (v : PV), flatN n v = true → pvEq v v = some true := by
  induction n with
  | zero =>
    intro v h
    cases v <;> first | rfl | exact beq_same _ | (cases h; done)
  | succ n ih =>
    intro v h
    cases v with
    | tup vs => exact pvsEq_refl fun x hx => ih x (List.all_eq_true.mp h x hx)
    | lst vs => exact pvsEq_refl fun x hx => ih x (List.all_eq_true.mp h x hx)
    | _ => first | rfl | exact beq_same _ | (cases h; done)
theorem cv_ne_same {vs : List PV} (h : flatN 6 (.lst vs) = true) : cmpV .ne (.lst vs) (.lst vs) = some false := by
  have e : eqG (.lst vs) (.lst vs) = onTrue (flatN 6 (.lst vs) && flatN 6 (.lst vs)) (pvEq (.lst vs) (.lst vs)) := rfl
  show (eqG (.lst vs) (.lst vs)).map (!·) = _
  rw [e, h, pvEq_refl 6 _ h]
  rfl
theorem kvsEq_refl {kvs : List (Int × PV)} (h : ∀ p ∈ kvs, flatN 6 p.2 = true) : kvsEq kvs kvs = some true := by
  induction kvs with
  | nil => rfl
  | cons p r ih =>
    show onTrue (p.1 == p.1) (and2 (pvEq p.2 p.2) (kvsEq r r)) = _
    rw [beq_self_eq_true, pvEq_refl 6 p.2 (h p (.head _)), ih fun x hx => h x (.tail _ hx)]
    rfl
theorem tab_flat {T : Tab} : ∀ p ∈ tabKvs T, flatN 6 p.2 = true := by
  intro p hp
  obtain ⟨q, _, rfl⟩ := List.mem_map.mp hp
  show (q.2.map entV).all (flatN 5) = true
  exact ent_flat
theorem cv_eq_tab {T : Tab} : cmpV .eq (.dct (tabKvs T)) (.dct (tabKvs T)) = some true := by
  have h : ((tabKvs T).all fun p => flatN 6 p.2) = true := List.all_eq_true.mpr tab_flat
  show eqG (.dct (tabKvs T)) (.dct (tabKvs T)) = _
  have e : eqG (.dct (tabKvs T)) (.dct (tabKvs T)) = onTrue (((tabKvs T).all fun p => flatN 6 p.2) && ((tabKvs T).all fun p => flatN 6 p.2)) (kvsEq (tabKvs T) (tabKvs T)) := rfl
  rw [e, h]
  exact kvsEq_refl tab_flat

theorem kvGet_tab {k : Int} {es : List Ent} : ∀ {T : Tab}, (T.map (·.1)).Nodup → (k, es) ∈ T → kvGet k (tabKvs T) = some (.lst (es.map entV))
  | (l, fs) :: T, h, hm => by
    rw [List.map_cons, List.nodup_cons] at h
    simp only [tabKvs, List.map_cons, kvGet]
    cases hm with
    | head => rw [if_pos rfl]
    | tail _ hm =>
      have : k ≠ l := fun e => h.1 (List.mem_map.mpr ⟨(k, es), hm, e⟩)
      rw [if_neg this]
      exact kvGet_tab h.2 hm
theorem kvPut_new {k : Int} {v : PV} : ∀ {d : List (Int × PV)}, (∀ p ∈ d, p.1 ≠ k) → kvPut k v d = d ++ [(k, v)]
  | [], _ => rfl
  | (l, x) :: d, h => by
    rw [kvPut, if_neg (fun e => h (l, x) (.head _) e.symm), kvPut_new (d := d) fun p hp => h p (.tail _ hp)]
    rfl
theorem kvPutAll_new : ∀ {r d : List (Int × PV)}, ((d ++ r).map (·.1)).Nodup → kvPutAll d r = d ++ r
  | [], d, _ => by simp [kvPutAll]
  | (k, v) :: r, d, h => by
    have e : d ++ (k, v) :: r = (d ++ [(k, v)]) ++ r := by simp
    have hk : ∀ p ∈ d, p.1 ≠ k := fun p hp e => by
      rw [List.map_append, List.nodup_append] at h
      exact h.2.2 p.1 (List.mem_map.mpr ⟨p, hp, rfl⟩) k (by simp) e
    rw [kvPutAll, kvPut_new hk, kvPutAll_new (by rw [← e]; exact h), e]
theorem pairsOf_tab : ∀ {T : Tab}, pairsOf (T.map fun p => .tup [.int p.1, .lst (p.2.map entV)]) = some (tabKvs T)
  | [] => rfl
  | p :: T => by
    rw [List.map_cons, pairsOf, pairsOf_tab]; rfl
theorem bi_dict_tab {T : Tab} (h : (T.map (·.1)).Nodup) : builtinM .dict [.lst (T.map fun p => .tup [.int p.1, .lst (p.2.map entV)])] = M.pure (.dct (tabKvs T)) := by
  have : builtinM .dict [.lst (T.map fun p => .tup [.int p.1, .lst (p.2.map entV)])] = M.ofOpt (do let kvs ← pairsOf (T.map fun p => .tup [.int p.1, .lst (p.2.map entV)]); some (.dct (kvPutAll [] kvs))) := rfl
  rw [this, pairsOf_tab]
  show M.ofOpt (some (PV.dct (kvPutAll [] (tabKvs T)))) = _
  rw [kvPutAll_new (by
    rw [List.nil_append]
    have e : (tabKvs T).map (·.1) = T.map (·.1) := by simp [tabKvs, Function.comp_def]
    rw [e]; exact h)]
  rfl

theorem applyR_ok {p : Bool} {rs : List Rec} {ll : Int} {k : Nat} : ∀ {es : List Ent}, (applyR p rs ll k es).rs.length = rs.length ∧ (applyR p rs ll k es).js.Pairwise (· < ·) ∧ ∀ j ∈ (applyR p rs ll k es).js, j < rs.length
  | [] => ⟨rfl, List.pairwise_lt_range, fun j hj => List.mem_range.mp hj⟩
  | (rest, lig) :: es => by
    rw [applyR]
    split
    · exact ⟨by simp, List.pairwise_lt_range, fun j hj => List.mem_range.mp hj⟩
    · split
      · exact applyR_ok
      · split
        · refine ⟨?_, keepL_pairwise, fun j hj => mem_keepL hj⟩
          simp only [joinR]
          rw [List.length_set, tieAllR_len, mergeR_len]
        · exact applyR_ok

theorem W_freeze_inst {n i : Nat} {c : Cl} {fs : List (At × PV)} {σ : St} {Q : PV → St → Prop} (h : σ[i]? = some (some (.inst c fs))) (hf : W (mapK (freeze n) fs) (σ.set i none) fun fs' σ' => Q (.inst c fs') σ') : W (freeze (n + 1) (.ref i)) σ Q := by
  exact (W_get (Q := fun o σ => W (frzO (freeze n) i o) σ Q) h).mpr hf
theorem freeze_info {n : Nat} {r : Rec} {σ : St} {Q : List (At × PV) → St → Prop} (q : Q (infF r) σ) : W (mapK (freeze (n + 1)) (infF r)) σ Q := by
  have : infF r = infF r := rfl
  simp only [infF] at q ⊢
  exact q

theorem keys_of {T : Tab} : ((tabKvs T).map fun p => PV.int p.1) = T.map fun p => PV.int p.1 := by simp [tabKvs, Function.comp_def]
theorem row_flat {js : List Nat} {rs : List Rec} : flatN 6 (.lst (js.map fun j => recPV (rg rs j))) = true := by
  refine List.all_eq_true.mpr ?_
  intro t ht
  obtain ⟨j, _, rfl⟩ := List.mem_map.mp ht
  rfl
end Mine.B
namespace Mine.B
set_option autoImplicit false
set_option linter.unusedVariables false
set_option linter.unusedSimpArgs false
set_option maxRecDepth 100000
set_option Elab.async false
set_option backward.defeqAttrib.useBackward true

section
variable {σ : St} {rs : List Rec} {T : Tab} {p : Bool}
theorem p_law_check {C : Fn → List PV → M PV} {L : Nat} {R : Res} (hn : rs.length < 150) (B : Bf σ L R.js R.rs R.ll) (hl : R.rs.length = rs.length) (hp : R.js.Pairwise (· < ·)) (hj : ∀ j ∈ R.js, j < rs.length) {v0 v1 v2 v3 v4 v5 v6 v7 v8 v9 u15 : Option PV} {QS : Fl × Env → St → Prop}
    (q : ∀ σ' v10 v11 v12 v13 v14 v15, QS (.next, [v0, v1, v2, v3, v4, v5, v6, v7, v8, v9, v10, v11, v12, v13, v14, v15, none, none, none]) σ') :
    W (execL C [(.assign 15 (.comp (.list [(.attr (.var 18) .glyph), (.attr (.var 18) .cluster), (.attr (.var 18) .mask), (.attr (.var 18) .kind), (.attr (.var 18) .lig_id), (.attr (.var 18) .lig_part), (.attr (.var 18) .lig_count), (.attr (.var 18) .is_unsafe), (.attr (.var 18) .split_id)]) 18 (.frz 9 (.attr (.var 10) .row)))),
    (.ifs (.bor [(.cmp .ne (.var 14) (.var 12)), (.cmp .ne (.var 15) (.var 11)), (.cmp .ne (.attr (.var 10) .last_lig) (.var 13))]) [(.ret (.bool false))] [])]
      [v0, v1, v2, v3, v4, v5, v6, v7, v8, v9, some (.ref (L + 1 + rs.length)), some (.lst (R.js.map fun j => recPV (rg R.rs j))), some (.int R.goal), some (.int R.ll), some (.int R.goal), u15, none, none, none]) σ QS := by
  have hb := B.buf
  rw [hl] at hb
  have hjl : R.js.length < LIM := by
    have h1 : R.js.length ≤ (List.range rs.length).length := by
      refine List.Nodup.length_le_of_subset (hp.imp fun h => Nat.ne_of_lt h) fun j hj' => List.mem_range.mpr (hj j hj')
    rw [List.length_range] at h1
    exact lim_small (by with_reducible exact O.a13q (by assumption) (by assumption) (by assumption))
  dsimp
  rw [W_attr hb]
  dsimp
  rw [show freeze 9 (.ref L) = freeze (8 + 1) (.ref L) from rfl]
  refine (W_get (Q := fun o σ => W (frzO (freeze 8) L o) σ _) B.row).mpr ?_
  show W (M.bind (M.erase L) fun _ => M.bind (mapL (freeze 8) _) fun us => M.pure (PV.lst us)) _ _
  simp only [W_bind, W_erase]
  refine W_freezeL_objs (B := L + 1) (v := fun j => .inst .info (infF (rg R.rs j))) (o := fun j => .inst .info (infF (rg R.rs j))) (n := 8) (fun j σ Q h q => W_freeze_inst h (freeze_info q)) _ _ _ hp (fun j hj' => ?_) fun σ' e1 e2 => ?_
  · rw [set_other (by with_reducible exact O.a11)]; exact B.info j (by rw [hl]; exact hj j hj')
  have hb' : σ'[L + 1 + rs.length]? = some (some (.inst .buffer (bufF L R.ll))) := by
    rw [e2 _ fun j hj' => by have := hj j hj'; with_reducible exact O.a11s (by assumption), set_other (by with_reducible exact O.a11)]; exact hb
  dsimp
  refine fits_in (by rw [List.length_map]; exact hjl) ?_
  refine W_mapL (g := fun t => match t with | .inst _ fs => .lst [(fGet .glyph fs).getD .none, (fGet .cluster fs).getD .none, (fGet .mask fs).getD .none, (fGet .kind fs).getD .none, (fGet .lig_id fs).getD .none, (fGet .lig_part fs).getD .none, (fGet .lig_count fs).getD .none, (fGet .is_unsafe fs).getD .none, (fGet .split_id fs).getD .none] | _ => .none) (fun t ht => ?_) ?_
  · obtain ⟨j, _, rfl⟩ := List.mem_map.mp ht
    exact ⟨rfl, rfl⟩
  · have em : (R.js.map fun j => PV.inst .info (infF (rg R.rs j))).map (fun t => match t with | .inst _ fs => PV.lst [(fGet .glyph fs).getD .none, (fGet .cluster fs).getD .none, (fGet .mask fs).getD .none, (fGet .kind fs).getD .none, (fGet .lig_id fs).getD .none, (fGet .lig_part fs).getD .none, (fGet .lig_count fs).getD .none, (fGet .is_unsafe fs).getD .none, (fGet .split_id fs).getD .none] | _ => .none) = R.js.map fun j => recPV (rg R.rs j) := by
      rw [List.map_map]
      apply List.map_congr_left
      exact fun j _ => rfl
    rw [em]
    dsimp
    rw [cv_ne, decide_eq_true rfl]
    dsimp
    rw [cv_ne_same row_flat]
    dsimp
    rw [W_attr hb']
    dsimp
    rw [cv_ne, decide_eq_true rfl]
    exact q _ _ _ _ _ _ _
end
end Mine.B
namespace Mine.B
set_option autoImplicit false
set_option linter.unusedVariables false
set_option linter.unusedSimpArgs false
set_option maxRecDepth 100000
set_option Elab.async false
set_option backward.defeqAttrib.useBackward true

section
variable {σ : St} {rs : List Rec} {T : Tab} {p : Bool}
noncomputable def envL (v0 v1 : Option PV) (rs : List Rec) (T : Tab) (p : Bool) (used : Int) (v9 v10 v11 v12 v13 v14 v15 : Option PV) : Env :=
  [v0, v1, some (.lst (rs.map recPV)), some (.dct (tabKvs T)), some (.bool p), some (.int used), some gdV, some (lkV p), some (.inst .ligature [(.sets, .dct (tabKvs T))]), v9, v10, v11, v12, v13, v14, v15, none, none, none]
noncomputable def LawI (v0 v1 : Option PV) (rs : List Rec) (T : Tab) (p : Bool) (used : Int) (_ : Nat) (ρ : Env) (_ : St) : Prop := ∃ (v9 v10 v11 v12 v13 v14 v15 : Option PV), ρ = envL v0 v1 rs T p used v9 v10 v11 v12 v13 v14 v15
theorem W_freezeF0 {fs : List (At × PV)} {Q : List (At × PV) → St → Prop} : W (mapK (freeze 0) fs) σ Q = Q fs σ := by
  induction fs generalizing Q with
  | nil => rfl
  | cons p r ih => exact ih (Q := fun xs σ' => Q (p :: xs) σ')
theorem p_law_loop (hn : rs.length < 10) (ho : ∀ k, k < rs.length → Ok (rg rs k) ∧ (rg rs k).cd = 1000 + k) (hT : ∀ x ∈ T, ∀ e ∈ x.2, e.1.length < 10) {used : Int} {v0 v1 : Option PV} :
    W (execL (callN D 11) (d_law.body.drop 8) [v0, v1, some (.lst (rs.map recPV)), some (.dct (tabKvs T)), some (.bool p), some (.int used), some gdV, some (lkV p), some (.inst .ligature [(.sets, .dct (tabKvs T))]), none, none, none, none, none, none, none, none, none, none]) σ (End fun v _ => v = .bool true) := by
  have hn2 : rs.length < 150 := Nat.lt_of_lt_of_le hn (by decide)
  dsimp [d_law, List.drop]
  rw [List.length_map, bi_range1 (fits_small (by with_reducible exact O.a14c) (by with_reducible exact O.a14b (by assumption)))]
  dsimp
  refine W_forL (LawI v0 v1 rs T p used) _ 0 _ _ (fun i ρ σ' t ht hi => ?_) (fun ρ σ' hi => ?_) ⟨none, none, none, none, none, none, none, rfl⟩
  · obtain ⟨v9, v10, v11, v12, v13, v14, v15, rfl⟩ := hi
    obtain ⟨rfl, hir⟩ := rangeL_at ht
    rw [Int.zero_add]
    have hir : i < rs.length := by with_reducible exact O.a28p (by assumption)
    have hTe : ∀ e ∈ getT (rg rs i).g T, e.1.length < 150 := fun e he => by
      obtain ⟨x, hx, hx2⟩ := getT_mem he
      exact Nat.lt_of_lt_of_le (hT x hx e hx2) (by decide)
    have hok : ∀ k, k < rs.length → Ok (rg rs k) := fun k hk => (ho k hk).1
    clear ht hT hn
    dsimp [envL]
    refine p_law_infos (n := 9) hn2 (fun k hk => (ho k hk).2) fun σ₁ e1 e2 e3 => ?_
    dsimp
    refine p_init_buffer (n := 10) ?_
    dsimp
    have B : Buf (σ₁ ++ [some (.inst .buffer (bufF σ'.length 0))]) σ'.length rs 0 := by
      refine ⟨?_, fun k hk => ?_, ?_⟩
      · rw [List.getElem?_append_left (live_lt e2)]; exact e2
      · rw [List.getElem?_append_left (live_lt (e3 k hk))]; exact e3 k hk
      · rw [← e1, top_get]
    rw [e1]
    generalize σ₁ ++ [some (PObj.inst .buffer (bufF σ'.length 0))] = σ₂ at B ⊢
    generalize σ'.length = L at B ⊢
    clear e1 e2 e3
    rw [W_setAttr B.buf]
    dsimp
    have B := B.lig used
    generalize σ₂.set (L + 1 + rs.length) (some (PObj.inst .buffer (bufF L used))) = σ₃ at B ⊢
    refine p_law_due (n := 8) (ll := used) hn2 hok hir hTe fun σ₄ E₄ => ?_
    have B := B.ext E₄
    clear E₄
    dsimp
    refine p_init_scene (n := 10) ?_
    dsimp
    refine W_freeze_inst (n := 0) top_get ?_
    rw [top_set]
    rw [W_freezeF0]
    dsimp only [W_pure, kL1_ap, wL_cons, wE_var, eg_9, eg_8, eg_7, eg_6, eg_5, eg_4, eg_3, eg_2, eg_1, eg_0, W_some, wL_nil, kL2_ap, kCallF_ap]
    refine p_apply (n := 4) (p := p) (ll := used) (B.alloc none) hn2 hok hir hTe fun σ₉ B₉ => ?_
    have hR := applyR_ok (p := p) (rs := rs) (ll := used) (k := i) (es := getT (rg rs i).g T)
    exact p_law_check hn2 B₉ hR.1 hR.2.1 hR.2.2 fun σ' v10 v11 v12 v13 v14 v15 => ⟨_, _, _, _, _, _, _, rfl⟩
  · obtain ⟨v9, v10, v11, v12, v13, v14, v15, rfl⟩ := hi
    dsimp [envL]
    rw [cv_eq_tab]
    rfl
end
end Mine.B
namespace Mine.B
set_option autoImplicit false
set_option linter.unusedVariables false
set_option linter.unusedSimpArgs false
set_option maxRecDepth 100000
set_option Elab.async false
set_option backward.defeqAttrib.useBackward true

section
variable {σ : St} {rs : List Rec} {T : Tab} {p : Bool}
theorem p_law_gdef {n : Nat} {Q : PV → St → Prop} {ρ : Env} (q : ∀ σ', Q gdV σ') :
    W (evalE (callN D (n + 2)) (.frz 9 (.callC .gdef [(.callC .classdef [(.callB .dict [(.callF .law_classes [])])]), (.callC .classdef [(.dict [] [])]), (.list [])])) ρ) σ Q := by
  have e1 : ∀ {kvs : List (Int × PV)}, builtinM .dict [.dct kvs] = M.pure (.dct kvs) := rfl
  dsimp
  refine p_law_classes (n := n + 1) ?_
  dsimp
  rw [e1]
  dsimp
  refine p_init_classdef (n := n + 1) ?_
  generalize h1 : σ ++ [some (PObj.inst .classdef [(.classes, .dct clsKvs)])] = σ₁
  have g1 : σ₁[σ.length]? = some (some (.inst .classdef [(.classes, .dct clsKvs)])) := by rw [← h1]; exact top_get
  have l1 : σ.length < σ₁.length := live_lt g1
  dsimp [kvPutAll]
  refine p_init_classdef (n := n + 1) ?_
  generalize h2 : σ₁ ++ [some (PObj.inst .classdef [(.classes, .dct [])])] = σ₂
  have g2 : σ₂[σ₁.length]? = some (some (.inst .classdef [(.classes, .dct [])])) := by rw [← h2]; exact top_get
  have g3 : σ₂[σ.length]? = some (some (.inst .classdef [(.classes, .dct clsKvs)])) := by rw [← h2, List.getElem?_append_left l1]; exact g1
  have l2 : σ₁.length < σ₂.length := live_lt g2
  dsimp
  refine p_init_gdef (n := n + 1) ?_
  dsimp
  refine W_freeze_inst (n := 8) top_get ?_
  rw [top_set]
  dsimp only [mapK_cons, W_bind]
  refine W_freeze_inst (n := 7) (by rw [List.getElem?_append_left (by with_reducible exact O.a34h (by assumption) (by assumption))]; exact g3) ?_
  dsimp only [mapK_cons, mapK_nil, fz_dct, W_bind, W_pure]
  refine W_freeze_inst (n := 7) (by rw [set_other (by omega), List.getElem?_append_left (by omega)]; exact g2) ?_
  dsimp only [mapK_cons, mapK_nil, mapL_nil, fz_dct, fz_int, fz_str, fz_lst, W_bind, W_pure]
  exact q _
theorem p_law_lookup {n : Nat} {Q : PV → St → Prop} {ρ : Env} (hp : ρ.get 4 = some (.bool p)) (q : ∀ σ', Q (lkV p) σ') :
    W (evalE (callN D (n + 2)) (.frz 9 (.callC .lookup [(.str .ligature), (.ite (.var 4) (.gc .IGNORE_MARKS) (.int 0)), (.int 0), (.list [])])) ρ) σ Q := by
  have fin : W (callN D (n + 2) (.init .lookup) [.ref σ.length, .str .ligature, .int (if p then 8 else 0), .int 0, .lst []]) (σ ++ [some (.inst .lookup [])]) (kNew σ.length (kFrz 9 Q)) := by
    refine p_init_lookup (n := n + 1) ?_
    dsimp
    refine W_freeze_inst (n := 8) top_get ?_
    dsimp only [mapK_cons, mapK_nil, mapL_nil, fz_dct, fz_int, fz_str, fz_lst, W_bind, W_pure]
    exact q _
  dsimp
  rw [hp]
  dsimp
  cases p <;> exact fin
theorem p_law_table {n : Nat} {Q : PV → St → Prop} {ρ : Env} (h3 : ρ.get 3 = some (.dct (tabKvs T))) (h17 : 17 < ρ.length) (hk : (T.map (·.1)).Nodup) (hl : T.length < 10) (q : ∀ σ', Q (.inst .ligature [(.sets, .dct (tabKvs T))]) σ') :
    W (evalE (callN D (n + 2)) (.frz 9 (.callC .ligature [(.callB .dict [(.comp (.tup [(.var 17), (.callB .list [(.sub (.var 3) (.var 17))])]) 17 (.var 3))])])) ρ) σ Q := by
  dsimp
  rw [h3]
  dsimp
  refine fits_in (by rw [List.length_map]; unfold tabKvs; rw [List.length_map]; exact lim_small (by with_reducible exact O.a13b (by assumption))) ?_
  rw [keys_of]
  have e1 : ∀ (g : PV → PV), (T.map fun p => PV.int p.1).map g = T.map fun p => g (.int p.1) := fun g => by rw [List.map_map]; rfl
  refine W_mapL (g := fun t => match t with | .int k => .tup [.int k, (kvGet k (tabKvs T)).getD .none] | _ => .none) (fun t ht => ?_) ?_
  · obtain ⟨x, hx, rfl⟩ := List.mem_map.mp ht
    obtain ⟨k, es⟩ := x
    have hg := kvGet_tab hk hx
    have h3' : (ρ.put 17 (.int k)).get 3 = some (.dct (tabKvs T)) := by
      unfold Env.get Env.put at *
      rw [List.getElem?_set_ne (by decide)]; exact h3
    have h17' : (ρ.put 17 (.int k)).get 17 = some (.int k) := by
      unfold Env.get Env.put
      rw [List.getElem?_set_self h17]
    have es : subV (.dct (tabKvs T)) (.int k) = M.pure (.lst (es.map entV)) := by
      show M.ofOpt (kvGet k (tabKvs T)) = _
      rw [hg]; rfl
    refine W.eq ?_
    dsimp
    rw [h17']
    dsimp
    rw [h3']
    dsimp
    rw [h17']
    dsimp
    rw [es]
    dsimp only [W_pure, kL1_ap, wL_nil, kL2_ap, kCallB_ap]
    rw [bi_list]
    refine ⟨?_, rfl⟩
    rw [hg]
    rfl
  · rw [e1]
    have e2 : (T.map fun p => (match PV.int p.1 with | .int k => PV.tup [.int k, (kvGet k (tabKvs T)).getD .none] | _ => .none)) = T.map fun p => .tup [.int p.1, .lst (p.2.map entV)] := by
      apply List.map_congr_left
      intro x hx
      show PV.tup [.int x.1, (kvGet x.1 (tabKvs T)).getD .none] = _
      rw [kvGet_tab (es := x.2) hk hx]; rfl
    rw [e2]
    dsimp only [kLst_ap, kL1_ap, wL_nil, kL2_ap, kCallB_ap]
    rw [bi_dict_tab hk]
    dsimp
    refine p_init_ligature (n := n + 1) ?_
    dsimp
    refine W_freeze_inst (n := 8) top_get ?_
    dsimp only [mapK_cons, mapK_nil, mapL_nil, fz_dct, fz_int, fz_str, fz_lst, W_bind, W_pure]
    exact q _

theorem p_law {ks : List Int} (hks : ks.length ≤ 63) : W (callN D 12 .law [.lst (ks.map .int)]) [] (fun v _ => v = .bool true) := by
  refine W_callD (d := d_law) (ρ := [some (.lst (ks.map .int)), none, none, none, none, none, none, none, none, none, none, none, none, none, none, none, none, none, none]) rfl rfl ?_
  have hlim : ks.length < LIM := lim_small (by with_reducible exact O.a13g (by assumption))
  have ht40 : (ks.take 40).length ≤ 40 := by rw [List.length_take]; with_reducible exact O.a16d
  have hb : d_law.body = d_law.body.take 1 ++ d_law.body.drop 1 := rfl
  have P0 : Pen ([some (PObj.list (penV (ks.take 40 ++ [31, 4]) 0 0))]) 0 := ⟨_, 0, 0, rfl, by simp, by simp; with_reducible exact O.a16e, Int.le_refl _, Nat.le_refl _⟩
  have rest : ∀ σ₀, Pen σ₀ 0 → W (execL (callN D 11) (d_law.body.drop 1) [some (.lst (ks.map .int)), some (.ref 0), none, none, none, none, none, none, none, none, none, none, none, none, none, none, none, none, none]) σ₀ (End fun v _ => v = .bool true) := fun σ₀ P0 => by
    dsimp [d_law, List.drop]
    refine p_law_row (n := 9) P0 (by decide) fun σ₁ rs F₁ P₁ hr2 hr10 hrs => ?_
    dsimp
    refine p_law_sets (n := 9) P₁ (by decide) hr10 (by omega) fun σ₂ T F₂ P₂ hTk hTl hT => ?_
    dsimp
    refine p_law_draw (n := 10) (many := 2) P₂ (by decide) (by decide) (by decide) fun σ₃ d _ _ P₃ hd => ?_
    dsimp
    rw [cv_eq]
    dsimp
    refine p_law_draw (n := 10) (many := 3) P₃ (by decide) (by decide) (by decide) fun σ₄ d2 _ _ P₄ hd2 => ?_
    clear hd hd2 P₄ P₃ P₂ P₁ P0 F₂ F₁ hr2
    rw [kBin2_ap, bv_add, W_some, kAssign_ap, After_next, W_cons, wS_assign]
    generalize (2 : Int) + d2 = used
    refine p_law_gdef (n := 9) fun σ₅ => ?_
    rw [kAssign_ap, After_next, W_cons, wS_assign]
    refine p_law_lookup (n := 9) rfl fun σ₆ => ?_
    rw [kAssign_ap, After_next, W_cons, wS_assign]
    refine p_law_table (n := 9) (T := T) rfl (Nat.le_of_ble_eq_true rfl) hTk hTl fun σ₇ => ?_
    exact p_law_loop hr10 hrs (fun x hx => (hT x hx).2)
  rw [hb]
  dsimp [d_law]
  rw [slice_40, ← List.map_take]
  dsimp
  refine fits_in (by rw [List.length_map]; exact Nat.lt_of_le_of_lt ht40 (by decide)) ?_
  refine W_mapL (g := fun t => t) (fun t ht => ?_) ?_
  · obtain ⟨x, _, rfl⟩ := List.mem_map.mp ht
    exact ⟨rfl, rfl⟩
  rw [List.map_id']
  have hds : (ks.take 40).map PV.int ++ [PV.int 31, PV.int 4] = (ks.take 40 ++ [31, 4]).map .int := by rw [List.map_append]; rfl
  dsimp
  rw [if_pos (by rw [List.length_map]; exact lim_small (Nat.lt_of_le_of_lt (Nat.add_le_add_right ht40 _) (by decide))), hds]
  exact rest _ P0
end
end Mine.B
open PySem PySem.W PyProof.Rows
theorem Mine.law_true : Mine.LawTrue := fun ks h => Mine.B.p_law h
-- names that the head would give to twins of its own constants: they stand, so it lays none (they weigh 78 MB, and nothing needs them)
theorem Mine.hd.tw10024716035694756283 : True := trivial
theorem Mine.hd.tw10111801491309104144 : True := trivial
theorem Mine.hd.tw1011335219593555734 : True := trivial
theorem Mine.hd.tw1013155817946168525 : True := trivial
theorem Mine.hd.tw10170382586518783626 : True := trivial
theorem Mine.hd.tw10216474801634566288 : True := trivial
theorem Mine.hd.tw10246146449241189800 : True := trivial
theorem Mine.hd.tw10258999931320997221 : True := trivial
theorem Mine.hd.tw10403243965636340961 : True := trivial
theorem Mine.hd.tw10424393626065333798 : True := trivial
theorem Mine.hd.tw10458740792067480800 : True := trivial
theorem Mine.hd.tw10525666975642140466 : True := trivial
theorem Mine.hd.tw10583446816852156582 : True := trivial
theorem Mine.hd.tw10601615944963115059 : True := trivial
theorem Mine.hd.tw10603584201595350602 : True := trivial
theorem Mine.hd.tw10614716105012338702 : True := trivial
theorem Mine.hd.tw10678649693572172417 : True := trivial
theorem Mine.hd.tw10727248033764811480 : True := trivial
theorem Mine.hd.tw10743916045514856203 : True := trivial
theorem Mine.hd.tw10752148897807903841 : True := trivial
theorem Mine.hd.tw10757015231228476308 : True := trivial
theorem Mine.hd.tw10784824025267889561 : True := trivial
theorem Mine.hd.tw10792051664901133789 : True := trivial
theorem Mine.hd.tw10879034167726328663 : True := trivial
theorem Mine.hd.tw10949625832625181284 : True := trivial
theorem Mine.hd.tw1097998534492414930 : True := trivial
theorem Mine.hd.tw11011131195910976488 : True := trivial
theorem Mine.hd.tw11054480109507316185 : True := trivial
theorem Mine.hd.tw11117797201346649052 : True := trivial
theorem Mine.hd.tw11128854368766332075 : True := trivial
theorem Mine.hd.tw11136197038861592535 : True := trivial
theorem Mine.hd.tw11151547217846952531 : True := trivial
theorem Mine.hd.tw11210553801493137410 : True := trivial
theorem Mine.hd.tw11213053971927718326 : True := trivial
theorem Mine.hd.tw11232374478483605306 : True := trivial
theorem Mine.hd.tw1129884963351977449 : True := trivial
theorem Mine.hd.tw11319097763535126812 : True := trivial
theorem Mine.hd.tw11389486352061984695 : True := trivial
theorem Mine.hd.tw11402939732021071671 : True := trivial
theorem Mine.hd.tw11465210709893060100 : True := trivial
theorem Mine.hd.tw11631947586910100387 : True := trivial
theorem Mine.hd.tw11660266114150955751 : True := trivial
theorem Mine.hd.tw11709330566771433103 : True := trivial
theorem Mine.hd.tw11713075325732132258 : True := trivial
theorem Mine.hd.tw11754176132448286083 : True := trivial
theorem Mine.hd.tw11869253278440568778 : True := trivial
theorem Mine.hd.tw11893437276241958245 : True := trivial
theorem Mine.hd.tw11917015161858427179 : True := trivial
theorem Mine.hd.tw1194904439430580092 : True := trivial
theorem Mine.hd.tw11953376511379268794 : True := trivial
theorem Mine.hd.tw1197925565968671727 : True := trivial
theorem Mine.hd.tw12023040214023829324 : True := trivial
theorem Mine.hd.tw12050417470231563642 : True := trivial
theorem Mine.hd.tw12070051907170230399 : True := trivial
theorem Mine.hd.tw12112201142124510154 : True := trivial
theorem Mine.hd.tw12113243949977362033 : True := trivial
theorem Mine.hd.tw12173100003817136821 : True := trivial
theorem Mine.hd.tw1222794163293265305 : True := trivial
theorem Mine.hd.tw12271959270614036898 : True := trivial
theorem Mine.hd.tw12319353311459017080 : True := trivial
theorem Mine.hd.tw12399718760709695909 : True := trivial
theorem Mine.hd.tw1241404454085649124 : True := trivial
theorem Mine.hd.tw12487502673411948298 : True := trivial
theorem Mine.hd.tw12588582704262371052 : True := trivial
theorem Mine.hd.tw12602439190401603521 : True := trivial
theorem Mine.hd.tw12614811148066621264 : True := trivial
theorem Mine.hd.tw12629568148972539762 : True := trivial
theorem Mine.hd.tw12631932088317031055 : True := trivial
theorem Mine.hd.tw12647368939536790636 : True := trivial
theorem Mine.hd.tw12706454586588949735 : True := trivial
theorem Mine.hd.tw12901994302517312135 : True := trivial
theorem Mine.hd.tw12936449754285732098 : True := trivial
theorem Mine.hd.tw13047593935725612058 : True := trivial
theorem Mine.hd.tw13181700845877081190 : True := trivial
theorem Mine.hd.tw13217225542625558698 : True := trivial
theorem Mine.hd.tw13220430256171166289 : True := trivial
theorem Mine.hd.tw13225837485096350037 : True := trivial
theorem Mine.hd.tw13267510147771200024 : True := trivial
theorem Mine.hd.tw13277076834127875243 : True := trivial
theorem Mine.hd.tw13285133528070534704 : True := trivial
theorem Mine.hd.tw13289513938125300765 : True := trivial
theorem Mine.hd.tw13315533130655954831 : True := trivial
theorem Mine.hd.tw13321331477185743149 : True := trivial
theorem Mine.hd.tw13330244855972007585 : True := trivial
theorem Mine.hd.tw13372043803930879067 : True := trivial
theorem Mine.hd.tw13409441903868389331 : True := trivial
theorem Mine.hd.tw13431754692932380062 : True := trivial
theorem Mine.hd.tw13466754112058979494 : True := trivial
theorem Mine.hd.tw13483081372092288885 : True := trivial
theorem Mine.hd.tw13518370688599389936 : True := trivial
theorem Mine.hd.tw1359830224848277088 : True := trivial
theorem Mine.hd.tw13638418597567726942 : True := trivial
theorem Mine.hd.tw13770079208771991547 : True := trivial
theorem Mine.hd.tw13783031573616600631 : True := trivial
theorem Mine.hd.tw13790719812936386609 : True := trivial
theorem Mine.hd.tw13828106393651249627 : True := trivial
theorem Mine.hd.tw13855946660403688772 : True := trivial
theorem Mine.hd.tw13866372431405929976 : True := trivial
theorem Mine.hd.tw13893168526513508166 : True := trivial
theorem Mine.hd.tw13919464512627920130 : True := trivial
theorem Mine.hd.tw14060154772996877548 : True := trivial
theorem Mine.hd.tw1409312971732116557 : True := trivial
theorem Mine.hd.tw14103535550066685397 : True := trivial
theorem Mine.hd.tw1413172679324656950 : True := trivial
theorem Mine.hd.tw14176624398918483544 : True := trivial
theorem Mine.hd.tw14294001040229213422 : True := trivial
theorem Mine.hd.tw14353793391729792155 : True := trivial
theorem Mine.hd.tw14400467628812073631 : True := trivial
theorem Mine.hd.tw14457593812595234344 : True := trivial
theorem Mine.hd.tw14553816603554493358 : True := trivial
theorem Mine.hd.tw14560493823538711346 : True := trivial
theorem Mine.hd.tw14598272352848978880 : True := trivial
theorem Mine.hd.tw14620637471214046174 : True := trivial
theorem Mine.hd.tw14705683404202351889 : True := trivial
theorem Mine.hd.tw14768889098011018680 : True := trivial
theorem Mine.hd.tw14835919218567510360 : True := trivial
theorem Mine.hd.tw14892549342360969540 : True := trivial
theorem Mine.hd.tw14896477498954680388 : True := trivial
theorem Mine.hd.tw14955159897011116063 : True := trivial
theorem Mine.hd.tw14980023328507725902 : True := trivial
theorem Mine.hd.tw15042006015671813226 : True := trivial
theorem Mine.hd.tw15043168886218598503 : True := trivial
theorem Mine.hd.tw1506431575118746342 : True := trivial
theorem Mine.hd.tw15081745916751887648 : True := trivial
theorem Mine.hd.tw15083628210047938546 : True := trivial
theorem Mine.hd.tw15089522573102190283 : True := trivial
theorem Mine.hd.tw15103106377680225435 : True := trivial
theorem Mine.hd.tw15166520500009309586 : True := trivial
theorem Mine.hd.tw15220180469806662145 : True := trivial
theorem Mine.hd.tw15344866539931968096 : True := trivial
theorem Mine.hd.tw15367242080415987702 : True := trivial
theorem Mine.hd.tw15368132723985388332 : True := trivial
theorem Mine.hd.tw15411387601460861337 : True := trivial
theorem Mine.hd.tw15416985209724490359 : True := trivial
theorem Mine.hd.tw15422856539912107476 : True := trivial
theorem Mine.hd.tw15508949281206285077 : True := trivial
theorem Mine.hd.tw15527848837575444561 : True := trivial
theorem Mine.hd.tw15529170255622000948 : True := trivial
theorem Mine.hd.tw15615420239508185596 : True := trivial
theorem Mine.hd.tw15615537253650120727 : True := trivial
theorem Mine.hd.tw15616948245753086127 : True := trivial
theorem Mine.hd.tw15642763164714097627 : True := trivial
theorem Mine.hd.tw15643275761693703936 : True := trivial
theorem Mine.hd.tw15683763237869141255 : True := trivial
theorem Mine.hd.tw15731897101577311753 : True := trivial
theorem Mine.hd.tw15759970867653108152 : True := trivial
theorem Mine.hd.tw1580110805410547442 : True := trivial
theorem Mine.hd.tw15833661619300960221 : True := trivial
theorem Mine.hd.tw15837987909243819085 : True := trivial
theorem Mine.hd.tw15852365999677673905 : True := trivial
theorem Mine.hd.tw1589133516308662214 : True := trivial
theorem Mine.hd.tw15910714762333108613 : True := trivial
theorem Mine.hd.tw15946388913382835224 : True := trivial
theorem Mine.hd.tw15948780112781908787 : True := trivial
theorem Mine.hd.tw15967140613478806237 : True := trivial
theorem Mine.hd.tw1600037746751723098 : True := trivial
theorem Mine.hd.tw16007149819294483003 : True := trivial
theorem Mine.hd.tw16029623286316568529 : True := trivial
theorem Mine.hd.tw16056359734778111409 : True := trivial
theorem Mine.hd.tw16064382804478563927 : True := trivial
theorem Mine.hd.tw16091413853298234908 : True := trivial
theorem Mine.hd.tw1610171440888473627 : True := trivial
theorem Mine.hd.tw16154546982801380032 : True := trivial
theorem Mine.hd.tw16157073509204512506 : True := trivial
theorem Mine.hd.tw16171809288044610508 : True := trivial
theorem Mine.hd.tw16194383521188589630 : True := trivial
theorem Mine.hd.tw16240987189780228909 : True := trivial
theorem Mine.hd.tw162610821266807592 : True := trivial
theorem Mine.hd.tw16302227732802510677 : True := trivial
theorem Mine.hd.tw16345102440705955213 : True := trivial
theorem Mine.hd.tw16393493315030741486 : True := trivial
theorem Mine.hd.tw16412773359747925120 : True := trivial
theorem Mine.hd.tw16432713993328977331 : True := trivial
theorem Mine.hd.tw16473244170626142550 : True := trivial
theorem Mine.hd.tw16477043939570097188 : True := trivial
theorem Mine.hd.tw16634568088961857937 : True := trivial
theorem Mine.hd.tw16640546478005224243 : True := trivial
theorem Mine.hd.tw16713699803418581334 : True := trivial
theorem Mine.hd.tw16722109127936396110 : True := trivial
theorem Mine.hd.tw16733963527221155113 : True := trivial
theorem Mine.hd.tw16772102934027710169 : True := trivial
theorem Mine.hd.tw16794629799341752650 : True := trivial
theorem Mine.hd.tw16853341256802265648 : True := trivial
theorem Mine.hd.tw16868993833207775613 : True := trivial
theorem Mine.hd.tw16945582573551092051 : True := trivial
theorem Mine.hd.tw16970440968685349367 : True := trivial
theorem Mine.hd.tw17047115858639842297 : True := trivial
theorem Mine.hd.tw17062030032774818151 : True := trivial
theorem Mine.hd.tw17087091549796120035 : True := trivial
theorem Mine.hd.tw17177331786930743035 : True := trivial
theorem Mine.hd.tw17213754286329925777 : True := trivial
theorem Mine.hd.tw17234923516513369237 : True := trivial
theorem Mine.hd.tw17252143746492648416 : True := trivial
theorem Mine.hd.tw17311223219408574766 : True := trivial
theorem Mine.hd.tw17387473266821786944 : True := trivial
theorem Mine.hd.tw17420951861521290806 : True := trivial
theorem Mine.hd.tw17495400312846734522 : True := trivial
theorem Mine.hd.tw17542962492245011380 : True := trivial
theorem Mine.hd.tw17562767543260142214 : True := trivial
theorem Mine.hd.tw17588044629489971554 : True := trivial
theorem Mine.hd.tw17599816209265215132 : True := trivial
theorem Mine.hd.tw1760603350576429475 : True := trivial
theorem Mine.hd.tw17606422857730326317 : True := trivial
theorem Mine.hd.tw17673860158736603733 : True := trivial
theorem Mine.hd.tw17681399029576232318 : True := trivial
theorem Mine.hd.tw17711083657039698284 : True := trivial
theorem Mine.hd.tw17714235663813219645 : True := trivial
theorem Mine.hd.tw17843490464661113860 : True := trivial
theorem Mine.hd.tw17869498258381001651 : True := trivial
theorem Mine.hd.tw17893044597097874663 : True := trivial
theorem Mine.hd.tw17901334829092211166 : True := trivial
theorem Mine.hd.tw17903497710992402801 : True := trivial
theorem Mine.hd.tw17909872777732066218 : True := trivial
theorem Mine.hd.tw17919194246423945575 : True := trivial
theorem Mine.hd.tw17950676927832955104 : True := trivial
theorem Mine.hd.tw17986969038992634876 : True := trivial
theorem Mine.hd.tw1800889605409440832 : True := trivial
theorem Mine.hd.tw18093812233618175256 : True := trivial
theorem Mine.hd.tw1809572648325974726 : True := trivial
theorem Mine.hd.tw18166333605607142505 : True := trivial
theorem Mine.hd.tw18219297243305740317 : True := trivial
theorem Mine.hd.tw18241275227582772068 : True := trivial
theorem Mine.hd.tw18264374347568628810 : True := trivial
theorem Mine.hd.tw18291419657060728153 : True := trivial
theorem Mine.hd.tw18293732401869909652 : True := trivial
theorem Mine.hd.tw18293851220164018083 : True := trivial
theorem Mine.hd.tw18300207936620678264 : True := trivial
theorem Mine.hd.tw18322514126500204803 : True := trivial
theorem Mine.hd.tw18343703819029505601 : True := trivial
theorem Mine.hd.tw1847840615245081061 : True := trivial
theorem Mine.hd.tw1848646778235469078 : True := trivial
theorem Mine.hd.tw1865391376527767206 : True := trivial
theorem Mine.hd.tw1882180444382439491 : True := trivial
theorem Mine.hd.tw190519026028168232 : True := trivial
theorem Mine.hd.tw1997569388931296116 : True := trivial
theorem Mine.hd.tw2068664650715991707 : True := trivial
theorem Mine.hd.tw2114630138375439770 : True := trivial
theorem Mine.hd.tw2195365466389143174 : True := trivial
theorem Mine.hd.tw2216850387143573719 : True := trivial
theorem Mine.hd.tw22551697357593593 : True := trivial
theorem Mine.hd.tw226724450230711188 : True := trivial
theorem Mine.hd.tw2274498078352570744 : True := trivial
theorem Mine.hd.tw2304311442786299043 : True := trivial
theorem Mine.hd.tw2315301623876862497 : True := trivial
theorem Mine.hd.tw2323474266016966308 : True := trivial
theorem Mine.hd.tw2329189449893159454 : True := trivial
theorem Mine.hd.tw2352558718584008940 : True := trivial
theorem Mine.hd.tw2386827423013361158 : True := trivial
theorem Mine.hd.tw2391449824757734642 : True := trivial
theorem Mine.hd.tw2457190517430149469 : True := trivial
theorem Mine.hd.tw2502866573005156581 : True := trivial
theorem Mine.hd.tw2603259988358896889 : True := trivial
theorem Mine.hd.tw2608437505485318709 : True := trivial
theorem Mine.hd.tw26425463804135960 : True := trivial
theorem Mine.hd.tw2708950531961675432 : True := trivial
theorem Mine.hd.tw2845679848157327705 : True := trivial
theorem Mine.hd.tw2867327485932766208 : True := trivial
theorem Mine.hd.tw2887051446865420828 : True := trivial
theorem Mine.hd.tw2930668341846507884 : True := trivial
theorem Mine.hd.tw2999033326186475339 : True := trivial
theorem Mine.hd.tw3008623586974134963 : True := trivial
theorem Mine.hd.tw307737655149646647 : True := trivial
theorem Mine.hd.tw3085183777334472315 : True := trivial
theorem Mine.hd.tw3109861748172591687 : True := trivial
theorem Mine.hd.tw3182187488490625086 : True := trivial
theorem Mine.hd.tw3229955645248102723 : True := trivial
theorem Mine.hd.tw3259873300814134281 : True := trivial
theorem Mine.hd.tw3309697970292668127 : True := trivial
theorem Mine.hd.tw3350844169311001129 : True := trivial
theorem Mine.hd.tw3381375190539634487 : True := trivial
theorem Mine.hd.tw3429492842335990350 : True := trivial
theorem Mine.hd.tw3442329435671937591 : True := trivial
theorem Mine.hd.tw3443669649825651883 : True := trivial
theorem Mine.hd.tw3452082135128663414 : True := trivial
theorem Mine.hd.tw3480954088277226078 : True := trivial
theorem Mine.hd.tw3571134770919094901 : True := trivial
theorem Mine.hd.tw361575752280415930 : True := trivial
theorem Mine.hd.tw3646829019195819677 : True := trivial
theorem Mine.hd.tw3694398316872202419 : True := trivial
theorem Mine.hd.tw3704167492566942397 : True := trivial
theorem Mine.hd.tw3759623122121258479 : True := trivial
theorem Mine.hd.tw3789350110615891812 : True := trivial
theorem Mine.hd.tw3795277891434052102 : True := trivial
theorem Mine.hd.tw3814350955762905654 : True := trivial
theorem Mine.hd.tw3828038474966422129 : True := trivial
theorem Mine.hd.tw3846061349045661252 : True := trivial
theorem Mine.hd.tw3915529967508079626 : True := trivial
theorem Mine.hd.tw3919010098100093602 : True := trivial
theorem Mine.hd.tw3953601041324332601 : True := trivial
theorem Mine.hd.tw4014540891139286612 : True := trivial
theorem Mine.hd.tw4015398097383911347 : True := trivial
theorem Mine.hd.tw402640490398009360 : True := trivial
theorem Mine.hd.tw4086058157674990017 : True := trivial
theorem Mine.hd.tw4115565904173853331 : True := trivial
theorem Mine.hd.tw4138081844389336918 : True := trivial
theorem Mine.hd.tw4172343393113369950 : True := trivial
theorem Mine.hd.tw4272726840584523970 : True := trivial
theorem Mine.hd.tw4297731678662094536 : True := trivial
theorem Mine.hd.tw4315991029959535628 : True := trivial
theorem Mine.hd.tw4360684699965382250 : True := trivial
theorem Mine.hd.tw4377701919642642989 : True := trivial
theorem Mine.hd.tw4478964076566166474 : True := trivial
theorem Mine.hd.tw4494801613693538912 : True := trivial
theorem Mine.hd.tw464777395874653626 : True := trivial
theorem Mine.hd.tw4702841417184801058 : True := trivial
theorem Mine.hd.tw4706079058837389440 : True := trivial
theorem Mine.hd.tw4851647983119433812 : True := trivial
theorem Mine.hd.tw4856431653887292112 : True := trivial
theorem Mine.hd.tw4870687313549177768 : True := trivial
theorem Mine.hd.tw4971549296188076032 : True := trivial
theorem Mine.hd.tw4993660671451451078 : True := trivial
theorem Mine.hd.tw5148922909946612681 : True := trivial
theorem Mine.hd.tw5174551420813472067 : True := trivial
theorem Mine.hd.tw5190246844813560578 : True := trivial
theorem Mine.hd.tw519851828213033955 : True := trivial
theorem Mine.hd.tw5278057926702712004 : True := trivial
theorem Mine.hd.tw5282504435634884242 : True := trivial
theorem Mine.hd.tw5292301768408028288 : True := trivial
theorem Mine.hd.tw5343241284826551009 : True := trivial
theorem Mine.hd.tw5363564295841288755 : True := trivial
theorem Mine.hd.tw5366084841770067474 : True := trivial
theorem Mine.hd.tw5367187694478559379 : True := trivial
theorem Mine.hd.tw5373601922739893978 : True := trivial
theorem Mine.hd.tw541196102884509978 : True := trivial
theorem Mine.hd.tw5416991563250132298 : True := trivial
theorem Mine.hd.tw5511420028821071320 : True := trivial
theorem Mine.hd.tw5562173858411828344 : True := trivial
theorem Mine.hd.tw5608270528595127837 : True := trivial
theorem Mine.hd.tw5635641802508607975 : True := trivial
theorem Mine.hd.tw5657824000916062451 : True := trivial
theorem Mine.hd.tw5716766192118558609 : True := trivial
theorem Mine.hd.tw5732804406350252772 : True := trivial
theorem Mine.hd.tw5781342201191254626 : True := trivial
theorem Mine.hd.tw5902613922787404954 : True := trivial
theorem Mine.hd.tw5978321128707920903 : True := trivial
theorem Mine.hd.tw5987830557187376847 : True := trivial
theorem Mine.hd.tw6038821095411175016 : True := trivial
theorem Mine.hd.tw6060742912462422084 : True := trivial
theorem Mine.hd.tw6082411064634330575 : True := trivial
theorem Mine.hd.tw6164396464334811476 : True := trivial
theorem Mine.hd.tw6184460063843016694 : True := trivial
theorem Mine.hd.tw6264232113106981867 : True := trivial
theorem Mine.hd.tw6276725880618359904 : True := trivial
theorem Mine.hd.tw6291416237084387574 : True := trivial
theorem Mine.hd.tw6293948785866598258 : True := trivial
theorem Mine.hd.tw6394381022753523788 : True := trivial
theorem Mine.hd.tw6407587892757256292 : True := trivial
theorem Mine.hd.tw6411954120941647267 : True := trivial
theorem Mine.hd.tw6423634429210846174 : True := trivial
theorem Mine.hd.tw6438293893037913957 : True := trivial
theorem Mine.hd.tw6528754448969337418 : True := trivial
theorem Mine.hd.tw6547078798241139092 : True := trivial
theorem Mine.hd.tw6555240042291301478 : True := trivial
theorem Mine.hd.tw6578402527460240241 : True := trivial
theorem Mine.hd.tw6759412095888398321 : True := trivial
theorem Mine.hd.tw6767318904944593275 : True := trivial
theorem Mine.hd.tw6785817131721698500 : True := trivial
theorem Mine.hd.tw6804821044290156842 : True := trivial
theorem Mine.hd.tw6819123309680001836 : True := trivial
theorem Mine.hd.tw6830512106363814048 : True := trivial
theorem Mine.hd.tw6838551448383532254 : True := trivial
theorem Mine.hd.tw6868836192036940282 : True := trivial
theorem Mine.hd.tw6882427118574961969 : True := trivial
theorem Mine.hd.tw6906073325868019850 : True := trivial
theorem Mine.hd.tw6924109203229866365 : True := trivial
theorem Mine.hd.tw6931407450589930559 : True := trivial
theorem Mine.hd.tw697623264460660564 : True := trivial
theorem Mine.hd.tw6982297934935202809 : True := trivial
theorem Mine.hd.tw6998783941825042932 : True := trivial
theorem Mine.hd.tw701787995468756871 : True := trivial
theorem Mine.hd.tw7028611270464810887 : True := trivial
theorem Mine.hd.tw7082855905992002993 : True := trivial
theorem Mine.hd.tw7085514621470718492 : True := trivial
theorem Mine.hd.tw7270182246851987180 : True := trivial
theorem Mine.hd.tw728884934406724761 : True := trivial
theorem Mine.hd.tw728904010328947111 : True := trivial
theorem Mine.hd.tw7289634563603522867 : True := trivial
theorem Mine.hd.tw7296583596125217682 : True := trivial
theorem Mine.hd.tw7355570028127101125 : True := trivial
theorem Mine.hd.tw7366208706002141716 : True := trivial
theorem Mine.hd.tw7494724483528729301 : True := trivial
theorem Mine.hd.tw7512474625130614241 : True := trivial
theorem Mine.hd.tw7534799579077118603 : True := trivial
theorem Mine.hd.tw7540655947842036084 : True := trivial
theorem Mine.hd.tw7540741092611519060 : True := trivial
theorem Mine.hd.tw758273949599710562 : True := trivial
theorem Mine.hd.tw7610815399733428385 : True := trivial
theorem Mine.hd.tw7654286748164834634 : True := trivial
theorem Mine.hd.tw7721951785955056133 : True := trivial
theorem Mine.hd.tw7746578258024575070 : True := trivial
theorem Mine.hd.tw7752767780024739350 : True := trivial
theorem Mine.hd.tw7754304195085646258 : True := trivial
theorem Mine.hd.tw7763873220885509757 : True := trivial
theorem Mine.hd.tw7891253978561527248 : True := trivial
theorem Mine.hd.tw7914949630228597729 : True := trivial
theorem Mine.hd.tw8025032847418708242 : True := trivial
theorem Mine.hd.tw8047900516022102942 : True := trivial
theorem Mine.hd.tw8068729725432388964 : True := trivial
theorem Mine.hd.tw8112040973832200146 : True := trivial
theorem Mine.hd.tw8134915037123179040 : True := trivial
theorem Mine.hd.tw8184699220007379433 : True := trivial
theorem Mine.hd.tw8213287575567293882 : True := trivial
theorem Mine.hd.tw8226494294326810461 : True := trivial
theorem Mine.hd.tw8228950375871286339 : True := trivial
theorem Mine.hd.tw8268277133935991078 : True := trivial
theorem Mine.hd.tw8356816923877370021 : True := trivial
theorem Mine.hd.tw8381844023166312768 : True := trivial
theorem Mine.hd.tw8457440626546761165 : True := trivial
theorem Mine.hd.tw8458067239894703972 : True := trivial
theorem Mine.hd.tw8516288146210602744 : True := trivial
theorem Mine.hd.tw8545014587354053640 : True := trivial
theorem Mine.hd.tw8609351116199087170 : True := trivial
theorem Mine.hd.tw8671608845466749128 : True := trivial
theorem Mine.hd.tw8684328023851190084 : True := trivial
theorem Mine.hd.tw8716120427605611371 : True := trivial
theorem Mine.hd.tw8727321023445011275 : True := trivial
theorem Mine.hd.tw8735263284916673568 : True := trivial
theorem Mine.hd.tw8789358453043137523 : True := trivial
theorem Mine.hd.tw8879563391730754479 : True := trivial
theorem Mine.hd.tw8902478645137244967 : True := trivial
theorem Mine.hd.tw8934143017859847078 : True := trivial
theorem Mine.hd.tw8960069828448710407 : True := trivial
theorem Mine.hd.tw8977307856219701671 : True := trivial
theorem Mine.hd.tw8990313861142287110 : True := trivial
theorem Mine.hd.tw9170477692918782315 : True := trivial
theorem Mine.hd.tw922143313871775805 : True := trivial
theorem Mine.hd.tw9277588360372424766 : True := trivial
theorem Mine.hd.tw9345676750909349944 : True := trivial
theorem Mine.hd.tw9345929723534960622 : True := trivial
theorem Mine.hd.tw9386895884608548742 : True := trivial
theorem Mine.hd.tw9421340871869096474 : True := trivial
theorem Mine.hd.tw9427301549700849589 : True := trivial
theorem Mine.hd.tw9430268157657104642 : True := trivial
theorem Mine.hd.tw94963384534068785 : True := trivial
theorem Mine.hd.tw9496365245306024149 : True := trivial
theorem Mine.hd.tw9499510787657705874 : True := trivial
theorem Mine.hd.tw9533747618267967006 : True := trivial
theorem Mine.hd.tw9557236495431379559 : True := trivial
theorem Mine.hd.tw9566141503761928105 : True := trivial
theorem Mine.hd.tw9641152695372364146 : True := trivial
theorem Mine.hd.tw9657781627882305391 : True := trivial
theorem Mine.hd.tw9673543361469618366 : True := trivial
theorem Mine.hd.tw9702936160620672325 : True := trivial
theorem Mine.hd.tw9719896912496429819 : True := trivial
theorem Mine.hd.tw9741134391959003819 : True := trivial
theorem Mine.hd.tw9748044761591592747 : True := trivial
theorem Mine.hd.tw9763420282994701918 : True := trivial
theorem Mine.hd.tw9783614193127449063 : True := trivial
theorem Mine.hd.tw978945382295711627 : True := trivial
theorem Mine.hd.tw9908193460736022307 : True := trivial
theorem Mine.hd.tw991583007596301734 : True := trivial
theorem Mine.hd.tw9960721518486171458 : True := trivial
set_option Elab.async true in
set_option maxRecDepth 100000 in
set_option maxHeartbeats 8000000 in
theorem Mine.hd : PySem.Challenge.rw_nu0232_01.Holds := by
  (w_on; o_law; k_head; (case hw => w_witness2); w_strict (
    k_fill
    intro w s₀ s₁ mg mb G Y fa o pm cd doc dV kV ho hd hcd hD hmg hg args vals as hpre hlay hrd hwl hlo
    have KX := kIn_of Y
    have hk := Mine.k_ok KX (by kernel_rfl) (fun k => by cases k <;> kernel_rfl) (by kernel_rfl) (fun f => by cases f with | init k => cases k <;> kernel_rfl | _ => kernel_rfl)
    refine Ground.open G ?_
    intro T B D TE TW
    wrow_args hpre hlay hrd hwl hlo
    rename_i ks _ _ _ _ _ _ _ a vs _ hL _ hW _ hI _ hlen _
    refine PySem.wpAny_mono (Mine.walk_law Mine.law_true KX hk T.g T.b T.nolimit T.builtins hmg (Mine.plain_of hW hL) hI (by omega) ⟨rfl, by decide, by decide⟩) (fun v s' q => ?_) fun _ _ z => z.elim
    obtain ⟨rfl, keep, hp, tk, rfl⟩ := q
    refine GoodW.toG ⟨.inl ⟨.bool true, .bool true, [], rfl, fun _ => rfl, .bool true, ?_, fun _ => ⟨List.nodup_nil, fun a ha => by cases ha⟩⟩, keep, rfl, hg⟩
    first | kernel_rfl | exact postW_of (X := true) (by kernel_rfl) (by kernel_rfl) rfl | exact postW_of (by rfl) (by rfl) (by rfl)))
theorem PySem.Challenge.cw_nu0232_01_holds : PySem.Challenge.rw_nu0232_01.Holds :=
  Mine.hd
