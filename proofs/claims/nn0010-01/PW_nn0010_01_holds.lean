import PyProof.Rows.All
import Wide.All
import OpenK.AllK
import Wide.FinOn
import PySem.Challenge.RW_nn0010_01
set_option Elab.async false
set_option maxRecDepth 100000
set_option maxHeartbeats 8000000
set_option linter.all false
set_option rowWalk.seconds 0
noncomputable section
open PySem PySem.W PyProof.Rows
namespace Mine
open_top hd for PySem.Challenge.rw_nn0010_01
end Mine
end
noncomputable section
namespace Mine
namespace Sl
theorem n1 {n C D : Nat} (h : n < C) (k : C ≤ D) : n < D := Nat.lt_of_lt_of_le h k
theorem n2 {n C D : Nat} (h : n ≤ C) (k : C < D) : n < D := Nat.lt_of_le_of_lt h k
theorem n3 {n C D : Nat} (h : n < C) (k : C ≤ D + 1) : n ≤ D := Nat.le_of_lt_succ (Nat.lt_of_lt_of_le h k)
theorem n4 {n C D : Nat} (h : n ≤ C) (k : C ≤ D) : n ≤ D := Nat.le_trans h k
theorem i1 {a b x : Int} (h : a ≤ x) (k : b ≤ a) : b ≤ x := Int.le_trans k h
theorem i2 {a b x : Int} (h : a < x) (k : b ≤ a + 1) : b ≤ x := Int.le_trans k h
theorem i3 {a b x : Int} (h : a ≤ x) (k : b < a) : b < x := Int.lt_of_lt_of_le k h
theorem i5 {a b x : Int} (h : x ≤ a) (k : a ≤ b) : x ≤ b := Int.le_trans h k
theorem i6 {a b x : Int} (h : x < a) (k : a ≤ b + 1) : x ≤ b := Int.le_of_lt_add_one (Int.lt_of_lt_of_le h k)
theorem i7 {a b x : Int} (h : x ≤ a) (k : a < b) : x < b := Int.lt_of_le_of_lt h k
theorem i8 {a b x : Int} (h : x < a) (k : a ≤ b) : x < b := Int.lt_of_lt_of_le h k
theorem z1 {a x : Int} (h : a ≤ x) (k : 0 < a) : x ≠ 0 := Int.ne_of_gt (Int.lt_of_lt_of_le k h)
theorem z2 {a x : Int} (h : a < x) (k : 0 ≤ a) : x ≠ 0 := Int.ne_of_gt (Int.lt_of_le_of_lt k h)
theorem c1 {n C : Nat} {D : Int} (h : n < C) (k : (C : Int) ≤ D) : (n : Int) < D := Int.lt_of_lt_of_le (Int.ofNat_lt.mpr h) k
theorem c2 {n C : Nat} {D : Int} (h : n ≤ C) (k : (C : Int) < D) : (n : Int) < D := Int.lt_of_le_of_lt (Int.ofNat_le.mpr h) k
theorem c3 {n C : Nat} {D : Int} (h : n < C) (k : (C : Int) ≤ D + 1) : (n : Int) ≤ D := Int.le_of_lt_add_one (Int.lt_of_lt_of_le (Int.ofNat_lt.mpr h) k)
theorem c4 {n C : Nat} {D : Int} (h : n ≤ C) (k : (C : Int) ≤ D) : (n : Int) ≤ D := Int.le_trans (Int.ofNat_le.mpr h) k
theorem c5 {n : Nat} {a : Int} (k : a ≤ 0) : a ≤ (n : Int) := Int.le_trans k (Int.natCast_nonneg n)
theorem t1 {a : Nat} {b c : Int} (h : c ≤ b) (k : (a : Int) ≤ c) : a ≤ b.toNat := Int.le_toNat (Int.le_trans (Int.natCast_nonneg a) (Int.le_trans k h)) |>.mpr (Int.le_trans k h)
theorem t2 {a : Nat} {b c : Int} (h : c ≤ b) (k : (a : Int) < c) : a < b.toNat := t1 (a := a + 1) h k
theorem t3 {a : Nat} {b c : Int} (h : c < b) (k : (a : Int) ≤ c) : a < b.toNat := t1 (a := a + 1) (c := c + 1) h (Int.add_le_add_right k 1)
theorem t4 {a b : Int} (h : a ≤ b) : a.toNat ≤ b.toNat := Int.toNat_le_toNat h
theorem r1 {x N c k l : Nat} (h : x + N < l) (q : c + k ≤ N) : x + c + k < l := by rw [Nat.add_assoc]; exact Nat.lt_of_le_of_lt (Nat.add_le_add_left q x) h
theorem m1 {i l : Nat} (h : i < l) : (i : Int) < (l : Int) := Int.ofNat_lt.mpr h
theorem m2 {i l : Nat} (h : (i : Int) < (l : Int)) : i < l := Int.ofNat_lt.mp h
theorem m3 {i l : Nat} (h : ¬ i < l) : l ≤ i := Nat.le_of_not_lt h
theorem m4 {i l : Nat} (h : ¬ i ≤ l) : l < i := Nat.lt_of_not_le h
theorem m5 {i l : Int} (h : ¬ i < l) : l ≤ i := Int.not_lt.mp h
theorem m6 {i l : Int} (h : ¬ i ≤ l) : l < i := Int.not_le.mp h
theorem q1 {x a m b c k l : Nat} (h : x + (a + m + b) < l) (q : c + k ≤ a + b) : x + c + k < l := r1 h (Nat.le_trans q (by rw [Nat.add_right_comm]; exact Nat.le_add_right _ _))
theorem q2 {x a m b c l : Nat} (h : x + (a + m + b) < l) (q : c ≤ b) : x + c + (a + m) < l := r1 h (by rw [Nat.add_comm]; exact Nat.add_le_add_left q _)
theorem q5 {x N k K a c l : Nat} (h : x + N < l) (g : k ≤ K) (q : c + (a + 8 * K) ≤ N) : x + c + (a + 8 * k) < l := r1 h (Nat.le_trans (Nat.add_le_add_left (Nat.add_le_add_left (Nat.mul_le_mul_left 8 g) a) c) q)
theorem q6 {x N k K a c l : Nat} (h : x + N < l) (g : k ≤ K) (q : c + (a + K) ≤ N) : x + c + (a + k) < l := r1 h (Nat.le_trans (Nat.add_le_add_left (Nat.add_le_add_left g a) c) q)
theorem q7 {x N l : Nat} (h : x + N < l) : x < l := Nat.lt_of_le_of_lt (Nat.le_add_right _ _) h
theorem e1 {e : Int} : e.toNat - 1 = (e - 1).toNat := (Int.toNat_sub' e 1).symm
theorem e2 {e : Int} : (e - 1).toNat = e.toNat - 1 := Int.toNat_sub' e 1
theorem e3 {k : Int} {n : Nat} : (k - (n : Int)).toNat = k.toNat - n := Int.toNat_sub' k n
theorem e4 {m n : Nat} : ((m : Int) - (n : Int)).toNat = m - n := Int.toNat_sub m n
theorem e5 {a : Nat} : (1 * (a : Int) - 1).toNat = a - 1 := by rw [Int.one_mul]; exact Int.toNat_sub a 1
theorem e6 {w : Int} : (w * 7).toNat = w.toNat * 7 := match w with | .ofNat _ => rfl | .negSucc _ => rfl
theorem e7 {k : Nat} : (-1 + (k : Int)).toNat = k - 1 := by rw [Int.add_comm]; exact Int.toNat_sub k 1
theorem e8 {k : Nat} : ((k : Int) - 1).toNat = k - 1 := Int.toNat_sub k 1
theorem e9 {k : Nat} : (-1 + ((k + 1 : Nat) : Int)).toNat = k := e7
theorem e10 {k : Nat} : (((k + 1 : Nat) : Int) - 1).toNat = k := e8
theorem e11 {l : Nat} : ((l : Int) - 1 + 1).toNat = l := by rw [Int.sub_add_cancel]; rfl
theorem e12 {j : Nat} : ((j : Int) - 1 + 1).toNat < ((j : Int) + 1).toNat := by rw [Int.sub_add_cancel]; exact Nat.lt_succ_self j
theorem e13 {a i : Nat} : ((a : Int) + (i : Int)).toNat = a + i := rfl
theorem e14 {a i : Nat} : (0 : Int) ≤ (a : Int) + (i : Int) := Int.natCast_nonneg (a + i)
theorem e15 {l : Nat} : ((l : Int) - 0).toNat = l := by rw [Int.sub_zero]; rfl
theorem e16 {l i : Nat} : l - 1 - i = l - (i + 1) := by rw [Nat.sub_sub, Nat.add_comm]
theorem e17 {l : Nat} : l - ((l : Int) - 1 + 1).toNat = 0 := by rw [e11, Nat.sub_self]
theorem e18 {l m : Nat} : l ≤ m + ((l : Int) - (m : Int)).toNat := by rw [e4]; exact Nat.sub_le_iff_le_add'.mp (Nat.le_refl _)
theorem f1 {l j : Nat} (h : j + 1 ≤ l) : l - (j + 1) + 1 = l - j := Nat.succ_pred_eq_of_pos (Nat.sub_pos_of_lt h)
theorem f2 {l j : Nat} (h : j < l) : l - (j + 1) + 1 = l - j := f1 h
theorem f2b {l : Nat} (h : 0 < l) : l - 1 + 1 = l := f1 h
theorem f2c {l : Nat} (h : 0 < l) : l = l - 1 + 1 := (f1 h).symm
theorem f2d {k : Nat} (h : ¬ k = 0) : k - 1 < k := Nat.sub_lt (Nat.pos_of_ne_zero h) Nat.one_pos
theorem f2e {l : Nat} (h : 1 ≤ l) : l - 1 + 1 = l := f1 h
theorem f2f {l : Nat} (h : 1 ≤ l) : l = (l - 1).succ := (f1 h).symm
theorem f2g {l : Nat} (h : 1 ≤ l) : l - 1 < l := Nat.sub_lt h Nat.one_pos
theorem f2h {l : Nat} (h : 0 < l) : l - 1 < l := Nat.sub_lt h Nat.one_pos
theorem f3 {l i : Nat} (h : i < ((l : Int) - 1 + 1).toNat) : (l : Int) - 1 - (i : Int) = ((l - (i + 1) : Nat) : Int) := by
  rw [e11] at h; rw [Int.ofNat_sub h, Int.sub_sub, Int.add_comm]; rfl
theorem f0 {l i j : Nat} (h : (l : Int) - 1 - (i : Int) = (j : Int)) : i < l := by
  have q : (0 : Int) ≤ (l : Int) - 1 - (i : Int) := h ▸ Int.natCast_nonneg _
  exact Int.ofNat_lt.mp (Int.lt_of_le_sub_one (Int.le_of_sub_nonneg q))
theorem f4 {l i : Nat} (h : (l : Int) - 1 - (i : Int) = ((l - (i + 1) : Nat) : Int)) : l - i = l - (i + 1) + 1 := (f1 (f0 h)).symm
theorem f5 {l i : Nat} (h : (l : Int) - 1 - (i : Int) = ((l - (i + 1) : Nat) : Int)) : l - (i + 1) < l := Nat.sub_lt (Nat.lt_of_le_of_lt (Nat.zero_le _) (f0 h)) (Nat.succ_pos i)
theorem f6 {l i j : Nat} (h : (l : Int) - 1 - (i : Int) = (j : Int)) : j + 1 + i = l := by
  have r := f0 h
  rw [f3 (l := l) (i := i) (by rw [e11]; exact r)] at h
  rw [← Int.ofNat_inj.mp h, f1 r]; exact Nat.sub_add_cancel (Nat.le_of_lt r)
theorem f7 {j l C : Nat} {D : Int} (h : j < l) (h1 : l < C) (q : (C : Int) ≤ D) : (j : Int) < D := c1 (Nat.lt_trans h h1) q
theorem f7b {a i l C : Nat} {D : Int} (h : a + i < l) (h1 : l < C) (q : (C : Int) ≤ D) : (a : Int) + (i : Int) < D := c1 (n := a + i) (Nat.lt_trans h h1) q
theorem f8 {a i l : Nat} (h : a + i < l) : (a : Int) + (i : Int) < (l : Int) := Int.ofNat_lt.mpr h
theorem f9b {j l n : Nat} (h : j < l) (e : n = l) : (j : Int) < (n : Int) := Int.ofNat_lt.mpr (e ▸ h)
theorem f9c {j l n : Nat} (h : j < l) (e : (l : Int) = (n : Int)) : (j : Int) < (n : Int) := e ▸ Int.ofNat_lt.mpr h
theorem f9d {l n C D : Nat} (e : n = l) (h : l < C) (q : C ≤ D) : n < D := e ▸ n1 h q
theorem f9e {l n C D : Nat} (e : n = l) (h : l ≤ C) (q : C < D) : n < D := e ▸ n2 h q
theorem f9f {l n C D : Nat} (e : n = l) (h : l ≤ C) (q : C ≤ D) : n ≤ D := e ▸ n4 h q
theorem f10 {j l : Nat} (h : j < l) : j + 1 ≤ l := h
theorem f11 {j l : Nat} (h : j + 1 ≤ l) : j < l := h
theorem f11b {j l : Nat} (h : j + 1 ≤ l) : j ≤ l := Nat.le_of_lt h
theorem f11c {j l : Nat} (h : j + 1 ≤ l) : l - (j + 1) < l := Nat.sub_lt (Nat.lt_of_lt_of_le (Nat.succ_pos _) h) (Nat.succ_pos _)
theorem f11d {j l m : Nat} (h : j + 1 ≤ l) (e : l = m) : l - (j + 1) < m := e ▸ f11c h
theorem f11e {j l m : Nat} (h : j + 1 ≤ l) (e : l = m) : j < m := e ▸ h
theorem f11f {j l m : Nat} (h : j < l) (e : l = m) : j < m := e ▸ h
theorem f11g {j l : Nat} (h : j < l) : l - 1 - j < l := by rw [e16]; exact f11c h
theorem f12 {n m l C D : Nat} (h : n + m = l) (h2 : l < C) (q : C ≤ D) : n < D := n1 (Nat.lt_of_le_of_lt (h ▸ Nat.le_add_right n m) h2) q
theorem f13 {i l : Nat} (h : i < ((l : Int) - 0).toNat) : i < l := by rw [e15] at h; exact h
theorem f14 {i x y : Nat} (h : i < ((y : Int) - (x : Int)).toNat) : x + i < y := by rw [e4] at h; exact Nat.add_lt_of_lt_sub' h
theorem f15c {x y : Nat} (h : (x : Int) < (y : Int)) : y ≥ x := Nat.le_of_lt (Int.ofNat_lt.mp h)
theorem f15d {x y : Nat} (h : ¬ (x : Int) < (y : Int)) : x ≥ y := Int.ofNat_le.mp (Int.not_lt.mp h)
theorem f15e {x y : Nat} (h : (x : Int) = (y : Int)) : x = y := Int.ofNat_inj.mp h
theorem f15f {x y : Nat} (h : (x : Int) ≠ (y : Int)) (k : ¬ (x : Int) < (y : Int)) : y < x := Int.ofNat_lt.mp (Int.lt_iff_le_and_ne.mpr ⟨Int.not_lt.mp k, h.symm⟩)
theorem f16 {X Y c : Int} (h : 0 ≤ c) (a : 0 < X) (b : 0 < Y) : 0 < X + Y + c := Int.add_pos_of_pos_of_nonneg (Int.add_pos a b) h
theorem f16b {X c : Int} (h : 0 ≤ c) (a : 0 < X) : 0 < X + c := Int.add_pos_of_pos_of_nonneg a h
theorem f16c {X c : Int} (h : 0 ≤ c) (a : 0 < X) : 0 < X + 0 + c := f16b h (by rw [Int.add_zero]; exact a)
theorem p2 {k : Nat} : (0 : Int) < 2 ^ k := Int.pow_pos (by decide)
theorem f16d {X c : Int} {k : Nat} (h : 0 ≤ c) : 0 ≤ c + X % 2 ^ k := Int.add_nonneg h (Int.emod_nonneg _ (Int.ne_of_gt p2))
theorem f16e {X Y c : Int} {k : Nat} (h : 0 ≤ c) : 0 ≤ c + (X % 2 ^ k + Y % 2 ^ k) := Int.add_nonneg h (Int.add_nonneg (Int.emod_nonneg _ (Int.ne_of_gt p2)) (Int.emod_nonneg _ (Int.ne_of_gt p2)))
theorem f16f {a b : Int} (h : 0 ≤ a) (k : 0 ≤ b) : 0 ≤ a + b := Int.add_nonneg h k
theorem f17 {c : Int} (h : 0 ≤ c) (k : ¬ 0 < c) : c = 0 := Int.le_antisymm (Int.not_lt.mp k) h
theorem f17b {c : Int} (k : ¬ 0 < c) : c.toNat = 0 := Int.toNat_of_nonpos (Int.not_lt.mp k)
theorem f17d {c : Nat} (k : ¬ c = 0) : 0 < c := Nat.pos_of_ne_zero k
theorem f17e {c : Int} (h : 0 < c) : c.toNat ≠ 0 := Nat.ne_of_gt (Int.lt_toNat.mpr h)
theorem f17f {c : Int} (k : c ≤ 0) : c.toNat = 0 := Int.toNat_of_nonpos k
theorem f17g {c : Int} (h : 0 ≤ c) (k : ¬ c = 0) : 0 < c := Int.lt_iff_le_and_ne.mpr ⟨h, Ne.symm k⟩
theorem g1 {a c C : Int} {D : Nat} (h : a ≤ c) (k : c ≤ C) (q : 0 ≤ a ∧ C < (D : Int)) : c.natAbs < D := by
  apply Int.ofNat_lt.mp; rw [Int.natAbs_of_nonneg (Int.le_trans q.1 h)]; exact Int.lt_of_le_of_lt k q.2
theorem g2 {a c C : Int} {D : Nat} (h : a ≤ c) (k : c < C) (q : 0 ≤ a ∧ C ≤ (D : Int)) : c.natAbs < D := by
  apply Int.ofNat_lt.mp; rw [Int.natAbs_of_nonneg (Int.le_trans q.1 h)]; exact Int.lt_of_lt_of_le k q.2
theorem g3 {a c C : Int} {D : Nat} (h : a < c) (k : c < C) (q : 0 ≤ a ∧ C ≤ (D : Int)) : c.natAbs < D := g2 (Int.le_of_lt h) k q
theorem g4 {n C D : Nat} (h : n < C) (q : C ≤ D) : ((n : Int)).natAbs < D := n1 h q
theorem g5 {a x n C : Int} {D : Nat} (h : a ≤ x) (k : x ≤ n) (k2 : n < C) (q : 0 ≤ a ∧ C ≤ (D : Int)) : x.natAbs < D := g2 h (Int.lt_of_le_of_lt k k2) q
theorem g6 {a b C D : Int} (h : a ≤ b) (k : b < C) (q : C ≤ D) : a < D := Int.lt_of_lt_of_le (Int.lt_of_le_of_lt h k) q
theorem g7 {a b C D : Int} (h : a < b) (k : b ≤ C) (q : C ≤ D) : a < D := Int.lt_of_lt_of_le (Int.lt_of_lt_of_le h k) q
theorem g7b {a b C D : Int} (h : a < b) (k : b < C) (q : C ≤ D) : a < D := Int.lt_of_lt_of_le (Int.lt_trans h k) q
theorem g8 {a b C D : Nat} (h : a ≤ b) (k : b < C) (q : C ≤ D) : a < D := n1 (Nat.lt_of_le_of_lt h k) q
theorem g9 {a b C D : Nat} (h : a ≤ b) (k : b ≤ C) (q : C < D) : a < D := n2 (Nat.le_trans h k) q
theorem s1 {a b c : Int} (h : a ≤ b) (k : b ≤ c) : a ≤ c := Int.le_trans h k
theorem s2 {a b c : Int} (h : a ≤ b) (k : b < c) : a < c := Int.lt_of_le_of_lt h k
theorem s4 {a b c : Int} (h : a ≤ b) (k : b ≤ c) : a.toNat ≤ c.toNat := Int.toNat_le_toNat (Int.le_trans h k)
theorem s6 {a b c : Nat} (h : a ≤ b) (k : b < c) : a < c := Nat.lt_of_le_of_lt h k
theorem s8 {a b c : Int} (e : a = b) (h : b ≤ c) : a ≤ c := e ▸ h
theorem u1 {u A A' : Int} (h : 0 ≤ u) (q : A' ≤ A) : A' ≤ A + u := Int.le_trans q (Int.le_add_of_nonneg_right h)
theorem u2 {u A C D : Int} (h : u < C) (q : A + C ≤ D + 1) : A + u ≤ D := Int.le_of_lt_add_one (Int.lt_of_lt_of_le (Int.add_lt_add_left h A) q)
theorem u3 {u A C D : Int} (h : u < C) (q : A + C ≤ D) : A + u < D := Int.lt_of_lt_of_le (Int.add_lt_add_left h A) q
theorem u4 {u A A' C D : Int} (h : 0 ≤ u ∧ u < C) (q : A' ≤ A ∧ A + C ≤ D + 1) : A' ≤ A + u ∧ A + u ≤ D := ⟨u1 h.1 q.1, u2 h.2 q.2⟩
theorem u5 {u A C : Int} {D : Nat} (h : u < C) (q : A + C ≤ (D : Int) + 1) : (A + u - 0).toNat ≤ D := by rw [Int.sub_zero]; exact Int.toNat_le.mpr (u2 h q)
theorem u6 {u A C k D : Int} (h : k < 0 + ((A + u - 0).toNat : Int)) (g : 0 ≤ u) (l : u < C) (q : 0 ≤ A ∧ A + C ≤ D) : k < D := by
  rw [Int.zero_add, Int.sub_zero, Int.toNat_of_nonneg (Int.add_nonneg q.1 g)] at h; exact Int.lt_trans h (u3 l q.2)
theorem v1 {w a A m : Int} (h : a ≤ w) (q : 0 ≤ m ∧ A ≤ a * m) : A ≤ w * m := Int.le_trans q.2 (Int.mul_le_mul_of_nonneg_right h q.1)
theorem v2 {w a A m : Int} (h : a ≤ w) (q : 0 ≤ m ∧ A < a * m) : A < w * m := Int.lt_of_lt_of_le q.2 (Int.mul_le_mul_of_nonneg_right h q.1)
theorem v3 {w b B m : Int} (h : w ≤ b) (q : 0 ≤ m ∧ b * m ≤ B) : w * m ≤ B := Int.le_trans (Int.mul_le_mul_of_nonneg_right h q.1) q.2
theorem v4 {w a m : Int} (h : a ≤ w) (q : 0 ≤ m ∧ 0 < a * m) : w * m ≠ 0 := Int.ne_of_gt (v2 h q)
theorem v5 {w b m : Int} {B : Nat} (h : w ≤ b) (q : 0 ≤ m ∧ b * m ≤ (B : Int)) : (w * m).toNat ≤ B := Int.toNat_le.mpr (v3 h q)
theorem v6 {k a A m : Int} (h : a ≤ k) (q : 0 ≤ m ∧ A < m * a) : A < m * k := Int.lt_of_lt_of_le q.2 (Int.mul_le_mul_of_nonneg_left h q.1)
theorem v7 {k a A m : Int} (h : k < a) (q : 0 ≤ m ∧ m * a < A) : m * k < A := Int.lt_of_le_of_lt (Int.mul_le_mul_of_nonneg_left (Int.le_of_lt h) q.1) q.2
theorem v8 {w b : Int} {B : Nat} (h : w ≤ b) (q : b ≤ (B : Int)) : w.toNat ≤ B := Int.toNat_le.mpr (Int.le_trans h q)
theorem v9 {w : Int} {n : Nat} (h : w ≤ (n : Int)) : w.toNat ≤ n := Int.toNat_le.mpr h
theorem v10 {a : Int} (h : 0 < a) : 1 * a ≠ 0 := by rw [Int.one_mul]; exact Int.ne_of_gt h
theorem v11 {a b : Int} (h : a < 1 * b) : a < b := by rw [Int.one_mul] at h; exact h
theorem v12 {e : Int} (h : 0 < e) : (e - 1).toNat < e.toNat := by rw [e2]; exact Nat.sub_lt (Int.lt_toNat.mpr h) Nat.one_pos
theorem v13 {e n : Int} (h : e ≤ n) : e - 1 ≤ n := Int.le_trans (Int.sub_le_self e (by decide)) h
theorem v14 {e n : Int} (h : e ≤ n) : e - 1 < n := Int.lt_of_lt_of_le (Int.sub_lt_self e (by decide)) h
theorem v15 {e : Int} (h : 0 < e) : 0 ≤ e - 1 := Int.sub_nonneg_of_le h
theorem v16 {e D : Int} {n C : Nat} (h : e ≤ (n : Int)) (k : n < C) (q : (C : Int) ≤ D) : e - 1 < D := v14 (Int.le_of_lt (Int.lt_of_le_of_lt h (c1 k q)))
theorem v17 {l C : Nat} {D : Int} (h : l < C) (q : (C : Int) ≤ D) : (l : Int) - 1 < D := v14 (Int.le_of_lt (c1 h q))
theorem v18 {a b C D E : Nat} (h : a < C) (k : b < D) (q : C + D ≤ E) : a + b ≤ E := Nat.le_trans (Nat.add_le_add (Nat.le_of_lt h) (Nat.le_of_lt k)) q
theorem v19 {t a C D : Nat} (h : t ≤ a + a) (k : a < C) (q : C + C ≤ D) : t < D := n1 (Nat.lt_of_le_of_lt h (Nat.add_lt_add k k)) q
theorem v20 {t a C D : Nat} (h : t ≤ a + a) (k : a ≤ C) (q : C + C < D) : t < D := n2 (Nat.le_trans h (Nat.add_le_add k k)) q
theorem v21 {t a b C D E : Nat} (h : t ≤ a + b) (k : a ≤ C) (k2 : b ≤ D) (q : C + D < E) : t < E := n2 (Nat.le_trans h (Nat.add_le_add k k2)) q
theorem v22 {r a C D : Nat} (h : r ≤ C) (q : a + C ≤ D) : a + r ≤ D := Nat.le_trans (Nat.add_le_add_left h a) q
theorem v23 {r a C D : Nat} (h : r ≤ C) (q : C + a ≤ D) : r + a ≤ D := Nat.le_trans (Nat.add_le_add_right h a) q
theorem v24 {r a C D : Nat} (h : r ≤ C) (q : a + C < D) : a + r < D := Nat.lt_of_le_of_lt (Nat.add_le_add_left h a) q
theorem w1 {L p : Nat} (h : ¬ (L : Int) ≤ (p : Int)) : p < L := Int.ofNat_lt.mp (Int.not_le.mp h)
theorem w2 {L p : Nat} (h : ¬ (L : Int) ≤ (p : Int)) : L - (L - p) = p := Nat.sub_sub_self (Nat.le_of_lt (w1 h))
theorem w3 {L p : Nat} : min (L - p) L = L - p := Nat.min_eq_left (Nat.sub_le L p)
theorem w4 {t L p n : Nat} (e : t = L - p) (h : ¬ (L : Int) ≤ (p : Int)) (z : 0 < p) (k : L < n + 1) : t < n := by
  rw [e]; exact Nat.lt_of_lt_of_le (Nat.sub_lt (Nat.lt_trans z (w1 h)) z) (Nat.le_of_lt_succ k)
theorem w5 {t L p C : Nat} (e : t = L - p) (k : L < C) : t < C := e ▸ Nat.lt_of_le_of_lt (Nat.sub_le L p) k
theorem w6 {t L p n : Nat} (e : t = p) (h : ¬ (L : Int) ≤ (p : Int)) (k : L < n + 1) : t < n := by rw [e]; exact Nat.lt_of_lt_of_le (w1 h) (Nat.le_of_lt_succ k)
theorem w7 {t L p C : Nat} (e : t = p) (h : ¬ (L : Int) ≤ (p : Int)) (k : L < C) : t < C := by rw [e]; exact Nat.lt_trans (w1 h) k
theorem w8 {L p C : Nat} (h : ¬ (L : Int) ≤ (p : Int)) (k : L < C) : p < C := Nat.lt_trans (w1 h) k
theorem w9 {L p : Nat} {A : Int} (e : A = (p : Int)) (h : ¬ (L : Int) ≤ (p : Int)) : 0 ≤ (L : Int) - A := by rw [e]; exact Int.sub_nonneg_of_le (Int.le_of_lt (Int.not_le.mp h))
theorem w10 {L A : Int} (h : ¬ L ≤ A) : 0 ≤ L - A := Int.sub_nonneg_of_le (Int.le_of_lt (Int.not_le.mp h))
theorem w11 {j k C : Nat} {D : Int} (h : (j : Int) < (k : Int)) (g : k ≤ C) (q : (C : Int) ≤ D) : (j : Int) < D := Int.lt_of_lt_of_le h (c4 g q)
theorem w12 {j k C : Nat} {D : Int} (h : (j : Int) < (k : Int)) (g : k ≤ C) (q : (C : Int) ≤ D) : (j : Int) ≤ D := Int.le_of_lt (w11 h g q)
theorem w13 {j k C D : Nat} (h : (j : Int) < (k : Int)) (g : k ≤ C) (q : C ≤ D + 1) : j ≤ D := Nat.le_of_lt_succ (Nat.lt_of_lt_of_le (Int.ofNat_lt.mp h) (Nat.le_trans g q))
theorem w14 {j k : Int} (h : j < k) : j - 1 < k := v14 (Int.le_of_lt h)
theorem x1 {n k : Nat} (e : n = k + 1) : n - (- -1 : Int).toNat = k := by rw [e]; rfl
theorem x2 {n k : Nat} (e : n = k + 1) : (0 : Int) ≤ (n : Int) - 1 := by rw [e]; exact Int.sub_nonneg_of_le (Int.ofNat_le.mpr (Nat.succ_le_succ (Nat.zero_le k)))
theorem x3 {n k : Nat} (e : n = k + 1) : -(n : Int) ≤ -1 := Int.neg_le_neg (Int.le_of_sub_nonneg (x2 e))
theorem x5 {n k C : Nat} {D : Int} (e : n = k + 1) (h : k + 1 ≤ C) (q : (C : Int) ≤ D) : (n : Int) - 1 ≤ D := v13 (c4 (e ▸ h) q)
theorem x6 {k C D : Nat} (h : k + 1 ≤ C) (q : C ≤ D + 1) : k ≤ D := Nat.le_of_succ_le_succ (Nat.le_trans h q)
theorem x7 {n k : Nat} (e : n = k) (h : 1 ≤ k) : (0 : Int) ≤ (n : Int) - 1 := by rw [e]; exact Int.sub_nonneg_of_le (Int.ofNat_le.mpr h)
theorem x8 {n k : Nat} (e : n = k) (h : 1 ≤ k) : -(n : Int) ≤ -1 := Int.neg_le_neg (Int.le_of_sub_nonneg (x7 e h))
theorem x9 {n k C : Nat} {D : Int} (e : n = k) (h : k ≤ C) (q : (C : Int) ≤ D) : (n : Int) - 1 ≤ D := v13 (c4 (e ▸ h) q)
theorem x11 {k C D : Nat} (h : k ≤ C) (q : C ≤ D) : k - 1 ≤ D := Nat.le_trans (Nat.sub_le k 1) (Nat.le_trans h q)
theorem x12 {i k : Nat} (h : i < k) : i < k + 1 := Nat.lt_succ_of_lt h
theorem x13 {k C : Nat} (h : k < C) : C - (k + 1) < C - k := Nat.sub_lt_sub_left h (Nat.lt_succ_self k)
theorem x13b {k D C : Nat} (h : k ≤ D) (q : D < C) : C - (k + 1) < C - k := x13 (n2 h q)
theorem x15 {n : Nat} (h : (n : Int) ≠ 0) : (0 : Int) < (n : Int) := Int.natCast_pos.mpr (Nat.pos_of_ne_zero (fun z => h (by rw [z]; rfl)))
theorem x16 {n : Nat} (h : (0 : Int) < (n : Int)) : 0 < n := Int.natCast_pos.mp h
theorem x17 {n : Nat} (h : (0 : Int) < (n : Int)) : -(n : Int) ≤ -1 := Int.neg_le_neg h
theorem x18 {n : Nat} (h : (n : Int) = 0) : n = 0 := Int.ofNat_eq_zero.mp h
theorem x20 {i k : Nat} (h : i < k + 1) (g : ¬ i < k) : i = k := Nat.eq_of_lt_succ_of_not_lt h g
theorem y1 {x n a C D : Int} (e : x = n) (h : a ≤ n) (k : n < C) (q : 0 ≤ a ∧ C ≤ D) : 0 ≤ x ∧ x < D := by rw [e]; exact ⟨Int.le_trans q.1 h, Int.lt_of_lt_of_le k q.2⟩
theorem y2 {x m n a C D : Int} (e : x = m) (h : a ≤ m) (k : m ≤ n) (k2 : n < C) (q : 0 ≤ a ∧ C ≤ D) : 0 ≤ x ∧ x < D := y1 e h (Int.lt_of_le_of_lt k k2) q
theorem y3 {x f r a A C B D : Int} (e : x = f + r) (h : a ≤ f) (h2 : f ≤ A) (k : C ≤ r) (k2 : r < B) (q : 0 ≤ a + C ∧ A + B ≤ D) : 0 ≤ x ∧ x < D := y1 e (Int.add_le_add h k) (Int.add_lt_add_of_le_of_lt h2 k2) q
theorem y4 {k a A : Int} {n E : Nat} (h : a ≤ k) (g : n < E) (q : A ≤ a - (E : Int)) : A ≤ k - (n : Int) := Int.le_trans q (Int.sub_le_sub h (Int.le_of_lt (Int.ofNat_lt.mpr g)))
theorem y5 {k C D : Int} {n : Nat} (h : k < C) (q : C ≤ D) : k - (n : Int) < D := Int.lt_of_le_of_lt (Int.sub_le_self k (Int.natCast_nonneg n)) (Int.lt_of_lt_of_le h q)
theorem y6 {k C D : Int} {n : Nat} (h : k < C) (q : C ≤ D) : k - (n : Int) ≤ D := Int.le_of_lt (y5 h q)
theorem y7 {a b D c : Nat} (h : a < D ∧ b < c) : D ≠ a := Nat.ne_of_gt h.1
theorem pk {y : Int} {n : Nat} (h : y < 0) : max 0 (min (y + (n : Int)) (n : Int)) = ((n - (-y).toNat : Nat) : Int) := by
  rw [Int.min_eq_left (Int.add_le_of_le_sub_right (by rw [Int.sub_self]; exact Int.le_of_lt h))]
  have e : y = -((-y).toNat : Int) := by rw [Int.toNat_of_nonneg (Int.le_of_lt (Int.neg_pos_of_neg h)), Int.neg_neg]
  generalize (-y).toNat = m at *
  rw [e, Int.add_comm]
  rcases Nat.le_total m n with g | g
  · rw [Int.ofNat_sub g]; exact Int.max_eq_right (Int.sub_nonneg_of_le (Int.ofNat_le.mpr g))
  · rw [Nat.sub_eq_zero_of_le g]; exact Int.max_eq_left (Int.sub_nonpos_of_le (Int.ofNat_le.mpr g))
theorem sm {a b : Int} (ha : -(2 ^ 62) ≤ a) (ha' : a < 2 ^ 62) (hb : -(2 ^ 62) ≤ b) (hb' : b < 2 ^ 62) :  (((((-2 ^ 63 ≤ a ∧ a < 2 ^ 63) ∧ -2 ^ 63 ≤ b ∧ b < 2 ^ 63) ∧ -2 ^ 63 ≤ (1:Int) ∧ (1:Int) < 2 ^ 63) ∧       -2 ^ 63 ≤ ((b - a).toNat:Int) ∧ ((b - a).toNat : Int) < 2 ^ 63) ∧     (((b - a).toNat : Int) = 0 ∨ -2 ^ 63 ≤ b + (1 - 1) ∧ b + (1 - 1) < 2 ^ 63)) := by
  refine ⟨⟨⟨⟨⟨i1 ha (by decide), i8 ha' (by decide)⟩, i1 hb (by decide), i8 hb' (by decide)⟩, by decide, by decide⟩, c5 (by decide), ?_⟩, .inr ⟨?_, ?_⟩⟩
  · rcases Int.le_total 0 (b - a) with g | g
    · rw [Int.toNat_of_nonneg g]; exact i8 (Int.sub_lt_sub_of_lt_of_le hb' ha) (by decide)
    · rw [Int.toNat_of_nonpos g]; decide
  · rw [Int.sub_self, Int.add_zero]; exact i1 hb (by decide)
  · rw [Int.sub_self, Int.add_zero]; exact i8 hb' (by decide)
end Sl
end Mine
end
local macro_rules | `(tactic| omega) => `(tactic| first | k_extra "om" | omega +splitDisjunctions)
theorem Mine.omWords : True := by
  (k_with "om" => (kjx_bare; omega +splitDisjunctions))
  (k_with "om" => decide +kernel)
  (k_with "om" => ((with_reducible show _ ∧ _); (first | with_reducible exact Mine.Sl.u4 (by assumption) (by decide +kernel) | with_reducible exact Mine.Sl.y1 (by assumption) (by assumption) (by assumption) (by decide +kernel) | with_reducible exact Mine.Sl.y2 (by assumption) (by assumption) (by assumption) (by assumption) (by decide +kernel) | with_reducible exact Mine.Sl.y3 (by assumption) (by assumption) (by assumption) (by assumption) (by assumption) (by decide +kernel))))
  (k_with "om" => ((with_reducible show (_ : Nat) ≠ _); (first | with_reducible exact Mine.Sl.f17e (by assumption) | with_reducible exact Mine.Sl.y7 (by assumption) | with_reducible exact Ne.symm (by assumption))))
  (k_with "om" => ((with_reducible show (_ : Int) ≠ _); (first | with_reducible exact Mine.Sl.z1 (by assumption) (by decide +kernel) | with_reducible exact Mine.Sl.z2 (by assumption) (by decide +kernel) | with_reducible exact Mine.Sl.v4 (by assumption) (by decide +kernel) | with_reducible exact Mine.Sl.v10 (by assumption) | with_reducible exact Ne.symm (by assumption))))
  (k_with "om" => ((with_reducible show (_ : Int) = _); (first | with_reducible exact Mine.Sl.f3 (by assumption) | with_reducible exact Mine.Sl.f17 (by assumption) (by assumption))))
  (k_with "om" => ((with_reducible show (_ : Int) ≤ _); (first | with_reducible exact Mine.Sl.i1 (by assumption) (by decide +kernel) | with_reducible exact Mine.Sl.i2 (by assumption) (by decide +kernel) | with_reducible exact Mine.Sl.i5 (by assumption) (by decide +kernel) | with_reducible exact Mine.Sl.i6 (by assumption) (by decide +kernel) | with_reducible exact Mine.Sl.c3 (by assumption) (by decide +kernel) | with_reducible exact Mine.Sl.c4 (by assumption) (by decide +kernel) | with_reducible exact Mine.Sl.c5 (by decide +kernel) | with_reducible exact Mine.Sl.m5 (by assumption) | with_reducible exact Mine.Sl.e14 | with_reducible exact Mine.Sl.f16d (by assumption) | with_reducible exact Mine.Sl.f16e (by assumption) | with_reducible exact Mine.Sl.f16f (by assumption) (by assumption) | with_reducible exact Mine.Sl.s1 (by assumption) (by assumption) | with_reducible exact Mine.Sl.s8 (by assumption) (by assumption) | with_reducible exact Mine.Sl.u1 (by assumption) (by decide +kernel) | with_reducible exact Mine.Sl.u2 (by assumption) (by decide +kernel) | with_reducible exact Mine.Sl.v1 (by assumption) (by decide +kernel) | with_reducible exact Mine.Sl.v3 (by assumption) (by decide +kernel) | with_reducible exact Mine.Sl.v13 (by assumption) | with_reducible exact Mine.Sl.v15 (by assumption) | with_reducible exact Mine.Sl.w9 (by assumption) (by assumption) | with_reducible exact Mine.Sl.w10 (by assumption) | with_reducible exact Mine.Sl.w12 (by assumption) (by assumption) (by decide +kernel) | with_reducible exact Mine.Sl.x2 (by assumption) | with_reducible exact Mine.Sl.x3 (by assumption) | with_reducible exact Mine.Sl.x5 (by assumption) (by assumption) (by decide +kernel) | with_reducible exact Mine.Sl.x7 (by assumption) (by assumption) | with_reducible exact Mine.Sl.x8 (by assumption) (by assumption) | with_reducible exact Mine.Sl.x9 (by assumption) (by assumption) (by decide +kernel) | with_reducible exact Mine.Sl.x17 (by assumption) | with_reducible exact Mine.Sl.y4 (by assumption) (by assumption) (by decide +kernel) | with_reducible exact Mine.Sl.y6 (by assumption) (by decide +kernel))))
  (k_with "om" => ((with_reducible show (_ : Int) < _); (first | with_reducible exact Mine.Sl.i3 (by assumption) (by decide +kernel) | with_reducible exact Mine.Sl.i7 (by assumption) (by decide +kernel) | with_reducible exact Mine.Sl.i8 (by assumption) (by decide +kernel) | with_reducible exact Mine.Sl.c1 (by assumption) (by decide +kernel) | with_reducible exact Mine.Sl.c2 (by assumption) (by decide +kernel) | with_reducible exact Mine.Sl.m1 (by assumption) | with_reducible exact Mine.Sl.m6 (by assumption) | with_reducible exact Mine.Sl.f7 (by assumption) (by assumption) (by decide +kernel) | with_reducible exact Mine.Sl.f7b (by assumption) (by assumption) (by decide +kernel) | with_reducible exact Mine.Sl.f8 (by assumption) | with_reducible exact Mine.Sl.f9b (by assumption) (by assumption) | with_reducible exact Mine.Sl.f9c (by assumption) (by assumption) | with_reducible exact Mine.Sl.f16 (by assumption) (by assumption) (by assumption) | with_reducible exact Mine.Sl.f16b (by assumption) (by assumption) | with_reducible exact Mine.Sl.f16c (by assumption) (by assumption) | with_reducible exact Mine.Sl.f17g (by assumption) (by assumption) | with_reducible exact Mine.Sl.g6 (by assumption) (by assumption) (by decide +kernel) | with_reducible exact Mine.Sl.g7 (by assumption) (by assumption) (by decide +kernel) | with_reducible exact Mine.Sl.g7b (by assumption) (by assumption) (by decide +kernel) | with_reducible exact Mine.Sl.s2 (by assumption) (by assumption) | with_reducible exact Mine.Sl.u3 (by assumption) (by decide +kernel) | with_reducible exact Mine.Sl.u6 (by assumption) (by assumption) (by assumption) (by decide +kernel) | with_reducible exact Mine.Sl.v2 (by assumption) (by decide +kernel) | with_reducible exact Mine.Sl.v6 (by assumption) (by decide +kernel) | with_reducible exact Mine.Sl.v7 (by assumption) (by decide +kernel) | with_reducible exact Mine.Sl.v11 (by assumption) | with_reducible exact Mine.Sl.v14 (by assumption) | with_reducible exact Mine.Sl.v16 (by assumption) (by assumption) (by decide +kernel) | with_reducible exact Mine.Sl.v17 (by assumption) (by decide +kernel) | with_reducible exact Mine.Sl.w11 (by assumption) (by assumption) (by decide +kernel) | with_reducible exact Mine.Sl.w14 (by assumption) | with_reducible exact Mine.Sl.x15 (by assumption) | with_reducible exact Mine.Sl.y5 (by assumption) (by decide +kernel))))
  (k_with "om" => ((with_reducible show (_ : Nat) = _); (first | with_reducible exact Mine.Sl.e1 | with_reducible exact Mine.Sl.e2 | with_reducible exact Mine.Sl.e3 | with_reducible exact Mine.Sl.e4 | with_reducible exact Mine.Sl.e5 | with_reducible exact Mine.Sl.e6 | with_reducible exact Mine.Sl.e7 | with_reducible exact Mine.Sl.e8 | with_reducible exact Mine.Sl.e9 | with_reducible exact Mine.Sl.e10 | with_reducible exact Mine.Sl.e11 | with_reducible exact Mine.Sl.e13 | with_reducible exact Mine.Sl.e15 | with_reducible exact Mine.Sl.e16 | with_reducible exact Mine.Sl.e17 | with_reducible exact Mine.Sl.f1 (by assumption) | with_reducible exact Mine.Sl.f2 (by assumption) | with_reducible exact Mine.Sl.f2b (by assumption) | with_reducible exact Mine.Sl.f2c (by assumption) | with_reducible exact Mine.Sl.f2e (by assumption) | with_reducible exact Mine.Sl.f2f (by assumption) | with_reducible exact Mine.Sl.f4 (by assumption) | with_reducible exact Mine.Sl.f6 (by assumption) | with_reducible exact Mine.Sl.f15e (by assumption) | with_reducible exact Mine.Sl.f17b (by assumption) | with_reducible exact Mine.Sl.f17f (by assumption) | with_reducible exact Mine.Sl.w2 (by assumption) | with_reducible exact Mine.Sl.w3 | with_reducible exact Mine.Sl.x1 (by assumption) | with_reducible exact Mine.Sl.x18 (by assumption) | with_reducible exact Mine.Sl.x20 (by assumption) (by assumption))))
  (k_with "om" => ((with_reducible show (_ : Nat) ≤ _); (first | with_reducible exact Mine.Sl.n3 (by assumption) (by decide +kernel) | with_reducible exact Mine.Sl.n4 (by assumption) (by decide +kernel) | with_reducible exact Mine.Sl.t1 (by assumption) (by decide +kernel) | with_reducible exact Mine.Sl.t4 (by assumption) | with_reducible exact Mine.Sl.m3 (by assumption) | with_reducible exact Mine.Sl.e18 | with_reducible exact Mine.Sl.f9f (by assumption) (by assumption) (by decide +kernel) | with_reducible exact Mine.Sl.f10 (by assumption) | with_reducible exact Mine.Sl.f11b (by assumption) | with_reducible exact Mine.Sl.f15c (by assumption) | with_reducible exact Mine.Sl.f15d (by assumption) | with_reducible exact Mine.Sl.s4 (by assumption) (by assumption) | with_reducible exact Mine.Sl.u5 (by assumption) (by decide +kernel) | with_reducible exact Mine.Sl.v5 (by assumption) (by decide +kernel) | with_reducible exact Mine.Sl.v8 (by assumption) (by decide +kernel) | with_reducible exact Mine.Sl.v9 (by assumption) | with_reducible exact Mine.Sl.v18 (by assumption) (by assumption) (by decide +kernel) | with_reducible exact Mine.Sl.v22 (by assumption) (by decide +kernel) | with_reducible exact Mine.Sl.v23 (by assumption) (by decide +kernel) | with_reducible exact Mine.Sl.w13 (by assumption) (by assumption) (by decide +kernel) | with_reducible exact Mine.Sl.x6 (by assumption) (by decide +kernel) | with_reducible exact Mine.Sl.x11 (by assumption) (by decide +kernel))))
  (k_with "om" => ((with_reducible show (_ : Nat) < _); (first | with_reducible exact Mine.Sl.n1 (by assumption) (by decide +kernel) | with_reducible exact Mine.Sl.n2 (by assumption) (by decide +kernel) | with_reducible exact Mine.Sl.t2 (by assumption) (by decide +kernel) | with_reducible exact Mine.Sl.t3 (by assumption) (by decide +kernel) | with_reducible exact Mine.Sl.r1 (by assumption) (by decide +kernel) | with_reducible exact Mine.Sl.m2 (by assumption) | with_reducible exact Mine.Sl.m4 (by assumption) | with_reducible exact Mine.Sl.q1 (by assumption) (by decide +kernel) | with_reducible exact Mine.Sl.q2 (by assumption) (by decide +kernel) | with_reducible exact Mine.Sl.q5 (by assumption) (by assumption) (by decide +kernel) | with_reducible exact Mine.Sl.q6 (by assumption) (by assumption) (by decide +kernel) | with_reducible exact Mine.Sl.q7 (by assumption) | with_reducible exact Mine.Sl.e12 | with_reducible exact Mine.Sl.f2d (by assumption) | with_reducible exact Mine.Sl.f2g (by assumption) | with_reducible exact Mine.Sl.f2h (by assumption) | with_reducible exact Mine.Sl.f5 (by assumption) | with_reducible exact Mine.Sl.f9d (by assumption) (by assumption) (by decide +kernel) | with_reducible exact Mine.Sl.f9e (by assumption) (by assumption) (by decide +kernel) | with_reducible exact Mine.Sl.f11 (by assumption) | with_reducible exact Mine.Sl.f11c (by assumption) | with_reducible exact Mine.Sl.f11d (by assumption) (by assumption) | with_reducible exact Mine.Sl.f11e (by assumption) (by assumption) | with_reducible exact Mine.Sl.f11f (by assumption) (by assumption) | with_reducible exact Mine.Sl.f11g (by assumption) | with_reducible exact Mine.Sl.f12 (by assumption) (by assumption) (by decide +kernel) | with_reducible exact Mine.Sl.f13 (by assumption) | with_reducible exact Mine.Sl.f14 (by assumption) | with_reducible exact Mine.Sl.f15f (by assumption) (by assumption) | with_reducible exact Mine.Sl.f17d (by assumption) | with_reducible exact Mine.Sl.g1 (by assumption) (by assumption) (by decide +kernel) | with_reducible exact Mine.Sl.g2 (by assumption) (by assumption) (by decide +kernel) | with_reducible exact Mine.Sl.g3 (by assumption) (by assumption) (by decide +kernel) | with_reducible exact Mine.Sl.g4 (by assumption) (by decide +kernel) | with_reducible exact Mine.Sl.g5 (by assumption) (by assumption) (by assumption) (by decide +kernel) | with_reducible exact Mine.Sl.g8 (by assumption) (by assumption) (by decide +kernel) | with_reducible exact Mine.Sl.g9 (by assumption) (by assumption) (by decide +kernel) | with_reducible exact Mine.Sl.s6 (by assumption) (by assumption) | with_reducible exact Mine.Sl.v12 (by assumption) | with_reducible exact Mine.Sl.v19 (by assumption) (by assumption) (by decide +kernel) | with_reducible exact Mine.Sl.v20 (by assumption) (by assumption) (by decide +kernel) | with_reducible exact Mine.Sl.v21 (by assumption) (by assumption) (by assumption) (by decide +kernel) | with_reducible exact Mine.Sl.v24 (by assumption) (by decide +kernel) | with_reducible exact Mine.Sl.w1 (by assumption) | with_reducible exact Mine.Sl.w4 (by assumption) (by assumption) (by assumption) (by assumption) | with_reducible exact Mine.Sl.w5 (by assumption) (by assumption) | with_reducible exact Mine.Sl.w6 (by assumption) (by assumption) (by assumption) | with_reducible exact Mine.Sl.w7 (by assumption) (by assumption) (by assumption) | with_reducible exact Mine.Sl.w8 (by assumption) (by assumption) | with_reducible exact Mine.Sl.x12 (by assumption) | with_reducible exact Mine.Sl.x13 (by assumption) | with_reducible exact Mine.Sl.x13b (by assumption) (by decide +kernel) | with_reducible exact Mine.Sl.x16 (by assumption))))
  (k_with "om" => with_reducible assumption)
  trivial
noncomputable section
open PySem PySem.W PyProof.Rows PySem.Calls
namespace Mine
abbrev ar (dp un : Nat) (gd : Option (List Code)) (fr : List Env) : Around := { handled := none, depth := dp, frames := some fr, guards := gd, units := un }
def Fin (H : Heap) (s : Shared) (R : Heap → Value → Prop) (v : Value) (s' : Shared) : Prop :=
  ∃ h' tk, s' = { s with heap := h', toks := tk } ∧ H.StaysIn h' ∧ R h' v
theorem Fin.mk {H h' : Heap} {L : Addr} {m : Str → Option Value} {s : Shared} {tk : Nat} {R : Heap → Value → Prop} {v : Value} (F : Fr H L h' m) (r : R h' v) : Fin H s R v { s with heap := h', toks := tk } :=
  ⟨h', tk, rfl, F.keep, r⟩
noncomputable def lkf : List (Str × Value) → Str → Option Value
  | [], _ => none
  | (k, v) :: r, y => if y = k then some v else lkf r y
theorem lkf_eq (y : Str) : ∀ l : List (Str × Value), l.lookup y = lkf l y
  | [] => rfl
  | (k, v) :: r => by
    rw [List.lookup_cons, lkf, ← lkf_eq y r]
    by_cases h : y = k
    · subst h; simp
    · have : (y == k) = false := by simpa using h
      rw [this, if_neg h]
theorem fr_lkf {h₀ h : Heap} {L : Addr} {l : List (Str × Value)} (F : Fr h₀ L h (fun y => l.lookup y)) : Fr h₀ L h (lkf l) := by
  have : (fun y => l.lookup y) = lkf l := funext fun y => lkf_eq y l
  rw [← this]; exact F
structure Wd where
  w : World
  mean : ExcName → Option Value
  mg : Str → Option Value
  mb : Str → Option Value
def Does (W : Wd) (d u : Nat) (f : Addr) (vs : List Value) (H : Heap) (R : Heap → Value → Prop) : Prop :=
  ∀ (A : Around) (fr : List Env) (base : Heap) (s : Shared), s.heap = H → A.handled = none → Below A base fr H → (hd.heap_39 W.w.params).In H → Top hd.view_39 (looseW hd.view_39 []) W.mean W.mg W.mb H → A.depth + d < recursionLimit → A.units + u < cLine →
    wpAny (model PySem.Challenge.rw_nn0010_01.row.prog W.w) A (call (.ref f) vs) (Fin H s R) (fun _ _ => False) s
theorem Does.enter {W : Wd} {d u : Nat} {f : Addr} {vs : List Value} {H : Heap} {R : Heap → Value → Prop} {name qual : Str} {params : Arguments} {body : List Stmt} {scope : Scope} {dV kV doc pm cdv ct oc : Value} {an od : Option Addr} {osl : Array (Option Value)} {binds : List (Str × Value)}
    (ho : (hd.heap_39 W.w.params).lookup f = some ⟨oc, od, .func (fnOf name qual params body scope dV kV doc pm an cdv ct), osl⟩) (hcd : codeIn (hd.heap_39 W.w.params) cdv qual = true)
    (hbind : ∀ s, BindsTo s (fnOf name qual params body scope dV kV doc pm an cdv ct) ⟨vs, []⟩ binds) (hloc : ∀ y ∈ binds, scope.names.lookup y.1 = some .local)
    (h : ∀ (dp un : Nat) (gd : Option (List Code)) (fr : List Env) (base : Heap) (s : Shared) (L : Addr) (h₁ : Heap), L = H.objs.size → s.heap = H → (hd.heap_39 W.w.params).In H → Top hd.view_39 (looseW hd.view_39 []) W.mean W.mg W.mb H → Below (ar dp un gd fr) base fr H → Fr H L h₁ (lkf binds.reverse) → News H L h₁ [] → dp + (d + 1) < recursionLimit → un + (u + 8) < cLine →
      wpAny (model PySem.Challenge.rw_nn0010_01.row.prog W.w) ((ar dp un gd fr).deeper (envOf qual scope L f cdv)) (execs body (envOf qual scope L f cdv)) (fun fl s' => Fin H s R (match fl with | .ret v => v | _ => .none) s') (fun _ _ => False) { s with heap := h₁, toks := s.toks + binds.length })
    (hco : scope.isCoroutine = false) (hgen : scope.isGenerator = false) (hk : scope.kind = .function)
    (hcell : ∀ x ∈ scope.names, x.2 ≠ .cell) : Does W (d + 1) (u + 8) f vs H R := by
  rintro ⟨hd, dp, fr', gd, un⟩ fr base s hs hh hB hX hT hd' hu'
  obtain rfl : hd = none := hh
  obtain rfl : fr' = some fr := hB.stack
  subst hs
  refine wpAny_call (codeAny_call_def (fd := fnOf name qual params body scope dV kV doc pm an cdv ct) (body := body) (binds := binds) (by show dp < _; dsimp only at hd'; omega) (hX _ _ ho) rfl hT.nolimit (codeRec_of hX hcd) rfl (hbind s) hcell hloc (fun h₁ hns hk₁ => ?_) hco hgen hk)
  refine wpAny_mono (h dp un gd fr base s s.heap.objs.size h₁ rfl rfl hX hT hB (fr_lkf ⟨hns, hk₁, Nat.le_refl _⟩) (fun p hp => nomatch hp) hd' hu') (fun fl s' hl => hl) (fun _ _ x => x.elim)
theorem Does.use {W : Wd} {d u : Nat} {f : Addr} {vs : List Value} {R : Heap → Value → Prop} {A : Around} {fr : List Env} {base h₀ : Heap} {L : Addr} {m : Str → Option Value} {news : List (Addr × Obj)} {s : Shared} {Q E : Value → Shared → Prop}
    {cn : Str} {cs : Scope} {a : Addr} {cd : Value}
    (F : Fr h₀ L s.heap m) (N : News h₀ L s.heap news) (B : Below A base fr h₀) (X : (hd.heap_39 W.w.params).In h₀) (T : Top hd.view_39 (looseW hd.view_39 []) W.mean W.mg W.mb h₀) (hk : cs.kind = .function) (hh : A.handled = none)
    (D : Does W d u f vs s.heap R) (hd : A.depth + 1 + d < recursionLimit) (hu : A.units + 3 + u < cLine)
    (k : ∀ v h' tk, Fr h₀ L h' m → News h₀ L h' news → (∀ p ∈ news, p.1 < s.heap.objs.size) → L < s.heap.objs.size → s.heap.StaysIn h' → R h' v → Q v { s with heap := h', toks := tk }) :
    wpAny (model PySem.Challenge.rw_nn0010_01.row.prog W.w) (A.deeper (envOf cn cs L a cd)) (call (.ref f) vs) Q E s := by
  have B' := B.push (name := cn) (a := a) (cd := cd) F hk
  refine wpAny_mono (D _ _ _ s rfl hh B' (X.keeps F.keep) (T.keeps F.keep) hd hu) (fun v s' hv => ?_) (fun _ _ x => x.elim)
  obtain ⟨h', tk, rfl, st, r⟩ := hv
  obtain ⟨oL, a1, a2, hL, a3⟩ := F.ns
  exact k v h' tk ⟨⟨oL, a1, a2, st _ _ hL, a3⟩, fun b o e => st _ _ (F.keep b o e), F.above⟩ (fun p hp => ⟨st _ _ (N p hp).1, (N p hp).2⟩) (fun p hp => Heap.lt_size (N p hp).1) (Heap.lt_size hL) st r
end Mine
end
noncomputable section
open PySem PySem.W PyProof.Rows PySem.Calls
namespace Mine
theorem pr2 {α β : Type} {T : α × β → Prop} (h : ∀ a b, T (a, b)) : ∀ c, T c := fun ⟨a, b⟩ => h a b
theorem pr3 {α β γ : Type} {T : α × β × γ → Prop} (h : ∀ a b c, T (a, b, c)) : ∀ c, T c := fun ⟨a, b, c⟩ => h a b c
theorem pr5 {α β γ δ ε : Type} {T : α × β × γ × δ × ε → Prop} (h : ∀ a b c d e, T (a, b, c, d, e)) : ∀ c, T c := fun ⟨a, b, c, d, e⟩ => h a b c d e
theorem pr6 {α β γ δ ε ζ : Type} {T : α × β × γ × δ × ε × ζ → Prop} (h : ∀ a b c d e f, T (a, b, c, d, e, f)) : ∀ c, T c := fun ⟨a, b, c, d, e, f⟩ => h a b c d e f
theorem pr7 {α β γ δ ε ζ η : Type} {T : α × β × γ × δ × ε × ζ × η → Prop} (h : ∀ a b c d e f g, T (a, b, c, d, e, f, g)) : ∀ c, T c := fun ⟨a, b, c, d, e, f, g⟩ => h a b c d e f g
theorem an2 {a b G : Prop} (h : a → b → G) : a ∧ b → G := fun ⟨x, y⟩ => h x y
theorem an3 {a b c G : Prop} (h : a → b → c → G) : a ∧ b ∧ c → G := fun ⟨x, y, z⟩ => h x y z
theorem an4 {a b c d G : Prop} (h : a → b → c → d → G) : a ∧ b ∧ c ∧ d → G := fun ⟨x, y, z, t⟩ => h x y z t
theorem an5 {a b c d e G : Prop} (h : a → b → c → d → e → G) : a ∧ b ∧ c ∧ d ∧ e → G := fun ⟨x, y, z, t, u⟩ => h x y z t u
theorem an6 {a b c d e f G : Prop} (h : a → b → c → d → e → f → G) : a ∧ b ∧ c ∧ d ∧ e ∧ f → G := fun ⟨x, y, z, t, u, v⟩ => h x y z t u v
theorem an8 {a b c d e f g i G : Prop} (h : a → b → c → d → e → f → g → i → G) : a ∧ b ∧ c ∧ d ∧ e ∧ f ∧ g ∧ i → G := fun ⟨x, y, z, t, u, v, p, q⟩ => h x y z t u v p q
def Hold (P : Prop) : Prop := P
theorem Hold.mk {P : Prop} (h : Hold P) : P := h
theorem fill (P : Prop) (w : World) (h : (hd.heap_39 w.params = hd.heap_39 w.params ∧ PySem.Challenge.rw_nn0010_01.row.prog = PySem.Challenge.rw_nn0010_01.row.prog) → P) : P := h ⟨rfl, rfl⟩
theorem lookup_if {y k : Str} {v : Value} {r : List (Str × Value)} : List.lookup y ((k, v) :: r) = if y = k then some v else List.lookup y r := by
  rw [List.lookup_cons]
  by_cases h : y = k
  · subst h; simp
  · have : (y == k) = false := by simpa using h
    rw [this, if_neg h]
theorem ints_snoc {vs : List Value} {ns : List Int} {n m : Int} {t : Tok} (h : IntsAre vs ns) (e : n = m) : IntsAre (vs ++ [.int n t]) (ns ++ [m]) := by
  subst e
  induction h with
  | nil => exact .cons _ _ .nil
  | cons k u _ ih => exact .cons _ _ ih
theorem fr_ext {h₀ h : Heap} {L : Addr} {m m' : Str → Option Value} (F : Fr h₀ L h m) (e : ∀ y, m y = m' y) : Fr h₀ L h m' := by
  have : m = m' := funext e
  rw [← this]; exact F
theorem news_sub {h₀ h : Heap} {L : Addr} {news news' : List (Addr × Obj)} (N : News h₀ L h news) (hs : ∀ p ∈ news', p ∈ news) : News h₀ L h news' := fun p hp => N p (hs p hp)
section
variable {prog : Program} {w : World} {A : Around} {E : Value → Shared → Prop} {Q : Flow → Shared → Prop} {s : Shared} {env : Env} {h₀ : Heap} {L : Addr}
def WEnd {σ : Type} (h₀ : Heap) (L : Addr) (s : Shared) (mm : σ → Str → Option Value) (led : σ → List (Addr × Obj)) (P : σ → Prop) (μ : σ → Nat) (n : Nat) (s₂ : Shared) : Prop :=
  ∃ c' h' tk m' news', s₂ = { s with heap := h', toks := tk } ∧ Fr h₀ L h' m' ∧ (∀ y, m' y = mm c' y) ∧ News h₀ L h' news' ∧ (∀ p ∈ led c', p ∈ news') ∧ P c' ∧ μ c' < n
def WPost {σ : Type} (h₀ : Heap) (L : Addr) (s : Shared) (mm : σ → Str → Option Value) (led : σ → List (Addr × Obj)) (P : σ → Prop) (μ : σ → Nat) (n : Nat) (Q : Flow → Shared → Prop) (f : Flow) (s₂ : Shared) : Prop :=
  match f with
  | .ret v => Q (.ret v) s₂
  | .brk => Q .next s₂
  | _ => WEnd h₀ L s mm led P μ n s₂
theorem WPost.next {σ : Type} {mm : σ → Str → Option Value} {led : σ → List (Addr × Obj)} {P : σ → Prop} {μ : σ → Nat} {n : Nat} {Q : Flow → Shared → Prop} {h' : Heap} {tk : Nat} {m' : Str → Option Value} {news' : List (Addr × Obj)} (c' : σ)
    (F : Fr h₀ L h' m') (N : News h₀ L h' news') (e : ∀ y, m' y = mm c' y) (hn : ∀ p ∈ led c', p ∈ news') (hp : P c') (hm : μ c' < n) : WPost h₀ L s mm led P μ n Q .next { s with heap := h', toks := tk } :=
  ⟨c', h', tk, m', news', rfl, F, e, N, hn, hp, hm⟩
theorem while_rule {σ : Type} {test : Expr} {body : List Stmt} {pos : Pos} {m₀ : Str → Option Value} {news : List (Addr × Obj)} (mm : (Str → Option Value) → σ → Str → Option Value) (led : Addr → σ → List (Addr × Obj)) (P : σ → Prop) (μ : σ → Nat) (l : Addr) (c₀ : σ)
    (F : Fr h₀ L s.heap m₀) (N : News h₀ L s.heap news) (hm : ∀ y, m₀ y = mm m₀ c₀ y) (hn : ∀ p ∈ led l c₀, p ∈ news) (hp : P c₀)
    (turn : ∀ (c : σ) h tk (K : Flow → Shared → Prop), (∀ f s₂, WPost h₀ L s (mm m₀) (led l) P μ (μ c) Q f s₂ → K f s₂) → P c → Fr h₀ L h (mm m₀ c) → News h₀ L h (led l c) →
      wpAny (model prog w) A (isTrue test env (eval test env)) (fun b s₂ =>
        if b = true then wpAny (model prog w) A (execs body env) K E s₂ else Q .next s₂) E { s with heap := h, toks := tk })
    (hE : PassesOwn (model prog w) A env E) :
    wpAny (model prog w) A (exec (.While test body [] pos) env) Q E s := by
  refine While_inv2 (fun n m nx => ∃ c : σ, nx = led l c ∧ μ c = n ∧ (∀ y, m y = mm m₀ c y) ∧ P c) (fr_ext F hm) (news_sub N hn) ⟨c₀, rfl, rfl, fun _ => rfl, hp⟩ ?_ hE
  rintro n m₁ nx h tk F₁ N₁ ⟨c, rfl, rfl, h1, hp'⟩
  refine wpAny_mono (turn c h tk _ (fun _ _ x => x) hp' (fr_ext F₁ h1) N₁) (fun b s₂ p => ?_) fun _ _ x => x
  cases b with
  | false => simpa using p
  | true =>
    simp only [if_true] at p ⊢
    refine wpAny_mono p (fun f s₃ q => ?_) fun _ _ x => x
    cases f with
    | ret v => exact q
    | brk => exact q
    | next =>
      obtain ⟨c', h', tk', m', news', rfl, F', e', N', hn', hp9, hm9⟩ := q
      exact ⟨h', tk', m', led l c', μ c', rfl, F', fun p hp => N' p (hn' p hp), hm9, c', rfl, rfl, e', hp9⟩
    | cont =>
      obtain ⟨c', h', tk', m', news', rfl, F', e', N', hn', hp9, hm9⟩ := q
      exact ⟨h', tk', m', led l c', μ c', rfl, F', fun p hp => N' p (hn' p hp), hm9, c', rfl, rfl, e', hp9⟩
end
section
variable {prog : Program} {w : World} {A : Around} {E : Value → Shared → Prop} {Q : Flow → Shared → Prop} {s : Shared} {env : Env} {h₀ : Heap} {x : Str} {body : List Stmt}
def FEnd {σ : Type} (h₀ : Heap) (L : Addr) (x : Str) (s : Shared) (mm : σ → Str → Option Value) (led : σ → List (Addr × Obj)) (P : σ → Prop) (own : List (Addr × Obj)) (s₂ : Shared) : Prop :=
  ∃ c' h' tk m' news', s₂ = { s with heap := h', toks := tk } ∧ Fr h₀ L h' m' ∧ (∀ y, y ≠ x → m' y = mm c' y) ∧ News h₀ L h' news' ∧ (∀ p ∈ led c', p ∈ news') ∧ (∀ p ∈ own, p ∈ news') ∧ P c'
def FPost {σ : Type} (h₀ : Heap) (L : Addr) (x : Str) (s : Shared) (mm : σ → Str → Option Value) (led : σ → List (Addr × Obj)) (P : σ → Prop) (own : List (Addr × Obj)) (Q : Flow → Shared → Prop) (f : Flow) (s₂ : Shared) : Prop :=
  match f with
  | .ret v => Q (.ret v) s₂
  | .brk => Q .next s₂
  | _ => FEnd h₀ L x s mm led P own s₂
theorem FPost.next {σ : Type} {L : Addr} {mm : σ → Str → Option Value} {led : σ → List (Addr × Obj)} {P : σ → Prop} {own : List (Addr × Obj)} {Q : Flow → Shared → Prop} {h' : Heap} {tk : Nat} {m' : Str → Option Value} {news' : List (Addr × Obj)} (c' : σ)
    (F : Fr h₀ L h' m') (N : News h₀ L h' news') (e : ∀ y, y ≠ x → m' y = mm c' y) (hn : ∀ p ∈ led c', p ∈ news') (ho : ∀ p ∈ own, p ∈ news') (hp : P c') : FPost h₀ L x s mm led P own Q .next { s with heap := h', toks := tk } :=
  ⟨c', h', tk, m', news', rfl, F, e, N, hn, ho, hp⟩
theorem fr_under {h : Heap} {L : Addr} {v : Value} {m m' : Str → Option Value} (F : Fr h₀ L h (fun y => if y = x then some v else m y)) (e : ∀ y, y ≠ x → m y = m' y) : Fr h₀ L h (fun y => if y = x then some v else m' y) :=
  fr_ext F fun y => by
    by_cases h : y = x
    · simp only [if_pos h]
    · simp only [if_neg h]; exact e y h
theorem fpost_of {σ : Type} {mm : σ → Str → Option Value} {led : σ → List (Addr × Obj)} {P : σ → Prop} {own : List (Addr × Obj)} {adr : List Addr} {s₁ s₂ : Shared} {f : Flow} {L : Addr} (ha : ∀ c, (led c).map (·.1) = adr) {J : (Str → Option Value) → List (Addr × Obj) → Prop}
    (hJ : ∀ c m, (∀ y, y ≠ x → m y = mm c y) → P c → J m (led c))
    (h : FPost h₀ L x s₁ mm led P own Q f s₂) : InvPostN h₀ L J own adr s₁ Q f s₂ := by
  have go : FEnd h₀ L x s₁ mm led P own s₂ → InvEndN h₀ L J own adr s₁ s₂ := by
    rintro ⟨c', h', tk, m', news', rfl, F', e', N', hn', ho', hp'⟩
    exact ⟨h', tk, m', news', led c', rfl, F', N', hn', ho', ha c', hJ c' m' e' hp'⟩
  cases f with
  | ret v => exact h
  | brk => exact h
  | next => exact go h
  | cont => exact go h
theorem for_range {σ : Type} {r : Addr} {a₀ b₀ st : Int} {t₀ u₀ v₀ : Tok} {n : Nat} {m₀ : Str → Option Value} {news : List (Addr × Obj)} (mm : (Str → Option Value) → σ → Str → Option Value) (led : Addr → σ → List (Addr × Obj)) (P : Nat → σ → Prop) (adr : Addr → List Addr) (l₁ : Addr) (c₀ : σ)
    (hh : A.handled = none) (hr : IsRange s.heap r a₀ b₀ st t₀ u₀ v₀) (hsmall : Builtin.Range.small a₀ b₀ st = true) (hn : Builtin.Range.rangeSize a₀ b₀ st = (n : Int))
    (F : Fr h₀ env.locals s.heap m₀) (N : News h₀ env.locals s.heap news) (hm : ∀ y, y ≠ x → m₀ y = mm m₀ c₀ y) (hN : ∀ p ∈ led l₁ c₀, p ∈ news) (ha : ∀ c, (led l₁ c).map (·.1) = adr l₁) (hp : P 0 c₀)
    (turn : ∀ (c : σ) (i : Nat) t h tk own (K : Flow → Shared → Prop), (∀ f s₂, FPost h₀ env.locals x { s with heap := h, toks := tk } (mm m₀) (led l₁) (P (i + 1)) own Q f s₂ → K f s₂) → i < n → P i c → OwnOff own (adr l₁) → Fr h₀ env.locals h (fun y => if y = x then some (.int (a₀ + i * st) t) else mm m₀ c y) → News h₀ env.locals h (led l₁ c ++ own) →
      wpAny (model prog w) A (execs body env) K E { s with heap := h, toks := tk })
    (done : ∀ (c : σ) (u : Option Value) h tk, P n c → Fr h₀ env.locals h (fun y => if y = x then u else mm m₀ c y) → News h₀ env.locals h (led l₁ c) → Q .next { s with heap := h, toks := tk }) :
    wpAny (model prog w) A (pyIter (.ref r)) (fun it s₂ => LoopAtV prog w A h₀ env x body Q E it s₂) E s := by
  refine wpAny_pyIter_range hr hsmall ?_
  have W : Walks prog w A s.heap.objs.size [s.heap.objs.size] [s.heap.objs.size] n (fun i v => i < n ∧ ∃ t, v = .int (a₀ + i * st) t)
      (fun i h => IsRangeIter h s.heap.objs.size (a₀ + (i : Nat) * st) ((n : Int) - (i : Nat)) st) := (Walks.range hh _ a₀ st n).bound
  have N := news_sub N hN
  refine loop_invN (news := led l₁ c₀) (fun i m nx => ∃ c : σ, nx = led l₁ c ∧ (∀ y, y ≠ x → m y = mm m₀ c y) ∧ P i c) W ?_ ?_ ?_ ?_ (by show IsRangeIter _ _ _ _ _; rw [hn]; simpa using Heap.get?_push_size _ rfl) (F.push _) (fun p hp => ⟨Heap.get?_push_of_some _ (N p hp).1, (N p hp).2⟩) ⟨c₀, rfl, hm, hp⟩ ?_ ?_
  · intro hm
    exact absurd F.ns.lt ((List.mem_singleton.mp hm) ▸ Nat.lt_irrefl _)
  · intro b hb
    rw [List.mem_singleton.mp hb]
    exact next_is_new F
  · intro p hp hI
    exact absurd (Heap.lt_size (N p hp).1) ((List.mem_singleton.mp hI) ▸ Nat.lt_irrefl _)
  · intro p hp hI
    exact absurd (Heap.lt_size (N p hp).1) ((List.mem_singleton.mp hI) ▸ Nat.lt_irrefl _)
  · rintro i v m₁ nx h tk own hi ⟨_, t, rfl⟩ _ hoff ⟨c, rfl, h1, hp'⟩ F₁ N₁
    rw [ha] at hoff ⊢
    refine wpAny_mono (turn c i t h tk own _ (fun _ _ x => x) hi hp' hoff (fr_under F₁ h1) N₁) (fun f s₂ p => ?_) fun _ _ e => e
    exact fpost_of ha (fun c m e hp => ⟨c, rfl, e, hp⟩) p
  · rintro m₁ nx h tk ⟨c, rfl, h1, hp'⟩ F₁ N₁
    refine done c (m₁ x) h tk hp' (fr_ext F₁ fun y => ?_) N₁
    by_cases h : y = x
    · rw [if_pos h, h]
    · rw [if_neg h]; exact h1 y h
theorem small_up {a b : Int} (ha : -(2 ^ 62) ≤ a) (ha' : a < 2 ^ 62) (hb : -(2 ^ 62) ≤ b) (hb' : b < 2 ^ 62) : Builtin.Range.small a b 1 = true := by
  unfold Builtin.Range.small
  rw [rangeSize_nat]
  simp only [Builtin.Range.rangeFitsLong, Bool.and_eq_true, Bool.or_eq_true, decide_eq_true_eq, beq_iff_eq, show ((1 : Int) > 0) by decide, if_true]
  exact Sl.sm ha ha' hb hb'
theorem for_up {σ : Type} {r : Addr} {a₀ b₀ : Int} {t₀ u₀ v₀ : Tok} {m₀ : Str → Option Value} {news : List (Addr × Obj)} (mm : (Str → Option Value) → σ → Str → Option Value) (led : Addr → σ → List (Addr × Obj)) (P : Nat → σ → Prop) (adr : Addr → List Addr) (l₁ : Addr) (c₀ : σ)
    (hh : A.handled = none) (hr : IsRange s.heap r a₀ b₀ 1 t₀ u₀ v₀) (hs0 : 0 ≤ a₀) (hs1 : a₀ < 2 ^ 62) (hs2 : 0 ≤ b₀) (hs3 : b₀ < 2 ^ 62)
    (F : Fr h₀ env.locals s.heap m₀) (N : News h₀ env.locals s.heap news) (hm : ∀ y, y ≠ x → m₀ y = mm m₀ c₀ y) (hN : ∀ p ∈ led l₁ c₀, p ∈ news) (ha : ∀ c, (led l₁ c).map (·.1) = adr l₁) (hp : P 0 c₀)
    (turn : ∀ (c : σ) (i : Nat) t h tk own (K : Flow → Shared → Prop), (∀ f s₂, FPost h₀ env.locals x { s with heap := h, toks := tk } (mm m₀) (led l₁) (P (i + 1)) own Q f s₂ → K f s₂) → i < (b₀ - a₀).toNat → P i c → OwnOff own (adr l₁) → Fr h₀ env.locals h (fun y => if y = x then some (.int (a₀ + i) t) else mm m₀ c y) → News h₀ env.locals h (led l₁ c ++ own) →
      wpAny (model prog w) A (execs body env) K E { s with heap := h, toks := tk })
    (done : ∀ (c : σ) (u : Option Value) h tk, P (b₀ - a₀).toNat c → Fr h₀ env.locals h (fun y => if y = x then u else mm m₀ c y) → News h₀ env.locals h (led l₁ c) → Q .next { s with heap := h, toks := tk }) :
    wpAny (model prog w) A (pyIter (.ref r)) (fun it s₂ => LoopAtV prog w A h₀ env x body Q E it s₂) E s :=
  for_range mm led P adr l₁ c₀ hh hr (small_up (by omega) hs1 (by omega) hs3) (rangeSize_nat _ _) F N hm hN ha hp (fun c i t h tk own K hK hi hp ho F N => turn c i t h tk own K hK hi hp ho (by rw [Int.mul_one] at F; exact F) N) done
theorem for_down {σ : Type} {r : Addr} {a₀ : Int} {t₀ u₀ v₀ : Tok} {m₀ : Str → Option Value} {news : List (Addr × Obj)} (mm : (Str → Option Value) → σ → Str → Option Value) (led : Addr → σ → List (Addr × Obj)) (P : Nat → σ → Prop) (adr : Addr → List Addr) (l₁ : Addr) (c₀ : σ)
    (hh : A.handled = none) (hr : IsRange s.heap r a₀ (-1) (-1) t₀ u₀ v₀) (hs0 : -1 ≤ a₀) (hs1 : a₀ < 2 ^ 62)
    (F : Fr h₀ env.locals s.heap m₀) (N : News h₀ env.locals s.heap news) (hm : ∀ y, y ≠ x → m₀ y = mm m₀ c₀ y) (hN : ∀ p ∈ led l₁ c₀, p ∈ news) (ha : ∀ c, (led l₁ c).map (·.1) = adr l₁) (hp : P 0 c₀)
    (turn : ∀ (c : σ) (i : Nat) t h tk own (K : Flow → Shared → Prop), (∀ f s₂, FPost h₀ env.locals x { s with heap := h, toks := tk } (mm m₀) (led l₁) (P (i + 1)) own Q f s₂ → K f s₂) → i < (a₀ + 1).toNat → P i c → OwnOff own (adr l₁) → Fr h₀ env.locals h (fun y => if y = x then some (.int (a₀ - i) t) else mm m₀ c y) → News h₀ env.locals h (led l₁ c ++ own) →
      wpAny (model prog w) A (execs body env) K E { s with heap := h, toks := tk })
    (done : ∀ (c : σ) (u : Option Value) h tk, P (a₀ + 1).toNat c → Fr h₀ env.locals h (fun y => if y = x then u else mm m₀ c y) → News h₀ env.locals h (led l₁ c) → Q .next { s with heap := h, toks := tk }) :
    wpAny (model prog w) A (pyIter (.ref r)) (fun it s₂ => LoopAtV prog w A h₀ env x body Q E it s₂) E s :=
  for_range mm led P adr l₁ c₀ hh hr (small_down (by omega) hs1 (by omega) (by omega)) (by rw [rangeSize_downNat]; congr 2) F N hm hN ha hp (fun c i t h tk own K hK hi hp ho F N => turn c i t h tk own K hK hi hp ho (by rw [Int.mul_neg, Int.mul_one] at F; exact F) N) done
theorem for_list {σ : Type} {l : Addr} {vs : List Value} {ns : List Int} {m₀ : Str → Option Value} {news : List (Addr × Obj)} (mm : (Str → Option Value) → σ → Str → Option Value) (led : Addr → σ → List (Addr × Obj)) (P : Nat → σ → Prop) (adr : Addr → List Addr) (l₁ : Addr) (c₀ : σ)
    (hh : A.handled = none) (hl : h₀.IsList l vs.toArray) (hi : IntsAre vs ns)
    (F : Fr h₀ env.locals s.heap m₀) (N : News h₀ env.locals s.heap news) (hm : ∀ y, y ≠ x → m₀ y = mm m₀ c₀ y) (hN : ∀ p ∈ led l₁ c₀, p ∈ news) (ha : ∀ c, (led l₁ c).map (·.1) = adr l₁) (hp : P 0 c₀)
    (turn : ∀ (c : σ) (i : Nat) n t h tk own (K : Flow → Shared → Prop), (∀ f s₂, FPost h₀ env.locals x { s with heap := h, toks := tk } (mm m₀) (led l₁) (P (i + 1)) own Q f s₂ → K f s₂) → ns[i]? = some n → P i c → OwnOff own (adr l₁) → Fr h₀ env.locals h (fun y => if y = x then some (.int n t) else mm m₀ c y) → News h₀ env.locals h (led l₁ c ++ own) →
      wpAny (model prog w) A (execs body env) K E { s with heap := h, toks := tk })
    (done : ∀ (c : σ) (u : Option Value) h tk, P ns.length c → Fr h₀ env.locals h (fun y => if y = x then u else mm m₀ c y) → News h₀ env.locals h (led l₁ c) → Q .next { s with heap := h, toks := tk }) :
    wpAny (model prog w) A (pyIter (.ref l)) (fun it s₂ => LoopAtV prog w A h₀ env x body Q E it s₂) E s := by
  refine iter_invN (news := led l₁ c₀) (fun i m nx => ∃ c : σ, nx = led l₁ c ∧ (∀ y, y ≠ x → m y = mm m₀ c y) ∧ P i c) hh hl hi F (news_sub N hN) ⟨c₀, rfl, hm, hp⟩ ?_ ?_
  · rintro i n t m₁ nx h tk own hn _ hoff ⟨c, rfl, h1, hp'⟩ F₁ N₁
    rw [ha] at hoff ⊢
    refine wpAny_mono (turn c i n t h tk own _ (fun _ _ x => x) hn hp' hoff (fr_under F₁ h1) N₁) (fun f s₂ p => ?_) fun _ _ e => e
    exact fpost_of ha (fun c m e hp => ⟨c, rfl, e, hp⟩) p
  · rintro m₁ nx h tk ⟨c, rfl, h1, hp'⟩ F₁ N₁
    refine done c (m₁ x) h tk hp' (fr_ext F₁ fun y => ?_) N₁
    by_cases h : y = x
    · rw [if_pos h, h]
    · rw [if_neg h]; exact h1 y h
def VEnd {σ : Type} (h₀ : Heap) (L : Addr) (x : Str) (s : Shared) (mm : σ → Str → Option Value) (led : σ → List (Addr × Obj)) (P : σ → Prop) (own : List (Addr × Obj)) (s₂ : Shared) : Prop :=
  ∃ c' h' tk m' news', s₂ = { s with heap := h', toks := tk } ∧ Fr h₀ L h' m' ∧ (∀ y, y ≠ x → m' y = mm c' y) ∧ News h₀ L h' news' ∧ (∀ p ∈ led c', p ∈ news') ∧ (∀ p ∈ own, p ∈ news') ∧ (∀ p ∈ led c', ∀ q ∈ own, q.1 ≠ p.1) ∧ P c'
def VPost {σ : Type} (h₀ : Heap) (L : Addr) (x : Str) (s : Shared) (mm : σ → Str → Option Value) (led : σ → List (Addr × Obj)) (P : σ → Prop) (own : List (Addr × Obj)) (Q : Flow → Shared → Prop) (f : Flow) (s₂ : Shared) : Prop :=
  match f with
  | .ret v => Q (.ret v) s₂
  | .brk => Q .next s₂
  | _ => VEnd h₀ L x s mm led P own s₂
theorem VPost.next {σ : Type} {L : Addr} {mm : σ → Str → Option Value} {led : σ → List (Addr × Obj)} {P : σ → Prop} {own : List (Addr × Obj)} {Q : Flow → Shared → Prop} {h' : Heap} {tk : Nat} {m' : Str → Option Value} {news' : List (Addr × Obj)} (c' : σ)
    (F : Fr h₀ L h' m') (N : News h₀ L h' news') (e : ∀ y, y ≠ x → m' y = mm c' y) (hn : ∀ p ∈ led c', p ∈ news') (ho : ∀ p ∈ own, p ∈ news') (ha : ∀ p ∈ led c', ∀ q ∈ own, q.1 ≠ p.1) (hp : P c') : VPost h₀ L x s mm led P own Q .next { s with heap := h', toks := tk } :=
  ⟨c', h', tk, m', news', rfl, F, e, N, hn, ho, ha, hp⟩
/-- a for over an argument's ints, the ledger's addresses free from turn to turn -/
theorem for_list_v {σ : Type} {l : Addr} {vs : List Value} {ns : List Int} {m₀ : Str → Option Value} {news : List (Addr × Obj)} (mm : (Str → Option Value) → σ → Str → Option Value) (led : σ → List (Addr × Obj)) (P : Nat → σ → Prop) (c₀ : σ)
    (hh : A.handled = none) (hl : h₀.IsList l vs.toArray) (hi : IntsAre vs ns)
    (F : Fr h₀ env.locals s.heap m₀) (N : News h₀ env.locals s.heap news) (hm : ∀ y, y ≠ x → m₀ y = mm m₀ c₀ y) (hN : ∀ p ∈ led c₀, p ∈ news) (hp : P 0 c₀)
    (turn : ∀ (c : σ) (i : Nat) n t h tk own (K : Flow → Shared → Prop), (∀ f s₂, VPost h₀ env.locals x { s with heap := h, toks := tk } (mm m₀) led (P (i + 1)) own Q f s₂ → K f s₂) → ns[i]? = some n → P i c → Fr h₀ env.locals h (fun y => if y = x then some (.int n t) else mm m₀ c y) → News h₀ env.locals h (led c ++ own) →
      wpAny (model prog w) A (execs body env) K E { s with heap := h, toks := tk })
    (done : ∀ (c : σ) (u : Option Value) h tk, P ns.length c → Fr h₀ env.locals h (fun y => if y = x then u else mm m₀ c y) → News h₀ env.locals h (led c) → Q .next { s with heap := h, toks := tk }) :
    wpAny (model prog w) A (pyIter (.ref l)) (fun it s₂ => LoopAtV prog w A h₀ env x body Q E it s₂) E s := by
  refine iter_invG (news := led c₀) (fun i m nx => ∃ c : σ, nx = led c ∧ (∀ y, y ≠ x → m y = mm m₀ c y) ∧ P i c) hh hl hi F (news_sub N hN) ⟨c₀, rfl, hm, hp⟩ ?_ ?_
  · rintro i n t m₁ nx h tk own hn - - ⟨c, rfl, h1, hp'⟩ F₁ N₁
    refine wpAny_mono (turn c i n t h tk own _ (fun _ _ x => x) hn hp' (fr_under F₁ h1) N₁) (fun f s₂ p => ?_) fun _ _ e => e
    have fin : VEnd h₀ env.locals x { s with heap := h, toks := tk } (mm m₀) led (P (i + 1)) own s₂ → InvEndG h₀ env.locals (fun m nx => ∃ c : σ, nx = led c ∧ (∀ y, y ≠ x → m y = mm m₀ c y) ∧ P (i + 1) c) own { s with heap := h, toks := tk } s₂ := by
      rintro ⟨c', h', tk, m', news', rfl, F', em, N', hn, ho, hap, hm⟩
      refine InvEndG.intro F' N' ⟨c', rfl, em, hm⟩ (fun q hq b hb => ?_) hn ho
      obtain ⟨p, hp, rfl⟩ := List.mem_map.mp hb
      exact hap p hp q hq
    cases f with
    | ret v => exact p
    | brk => exact p
    | next => exact fin p
    | cont => exact fin p
  · rintro m₁ nx h tk ⟨c, rfl, h1, hp'⟩ F₁ N₁
    refine done c (m₁ x) h tk hp' (fr_ext F₁ fun y => ?_) N₁
    by_cases h : y = x
    · rw [if_pos h, h]
    · rw [if_neg h]; exact h1 y h
theorem for_listL {σ : Type} {l : Addr} {vs : List Value} {ns : List Int} {nn : Nat} {m₀ : Str → Option Value} {news : List (Addr × Obj)} (mm : (Str → Option Value) → σ → Str → Option Value) (led : Addr → σ → List (Addr × Obj)) (P : Nat → σ → Prop) (adr : Addr → List Addr) (l₁ : Addr) (c₀ : σ)
    (hh : A.handled = none) (hi : IntsAre vs ns)
    (F : Fr h₀ env.locals s.heap m₀) (N : News h₀ env.locals s.heap news) (hm : ∀ y, y ≠ x → m₀ y = mm m₀ c₀ y) (hN : ∀ p ∈ led l₁ c₀, p ∈ news) (hlc : ∀ c, (l, PySem.W.listOf vs.toArray nn) ∈ led l₁ c) (ha : ∀ c, (led l₁ c).map (·.1) = adr l₁) (hp : P 0 c₀)
    (turn : ∀ (c : σ) (i : Nat) n t h tk own (K : Flow → Shared → Prop), (∀ f s₂, FPost h₀ env.locals x { s with heap := h, toks := tk } (mm m₀) (led l₁) (P (i + 1)) own Q f s₂ → K f s₂) → ns[i]? = some n → P i c → OwnOff own (adr l₁) → Fr h₀ env.locals h (fun y => if y = x then some (.int n t) else mm m₀ c y) → News h₀ env.locals h (led l₁ c ++ own) →
      wpAny (model prog w) A (execs body env) K E { s with heap := h, toks := tk })
    (done : ∀ (c : σ) (u : Option Value) h tk, P ns.length c → Fr h₀ env.locals h (fun y => if y = x then u else mm m₀ c y) → News h₀ env.locals h (led l₁ c) → Q .next { s with heap := h, toks := tk }) :
    wpAny (model prog w) A (pyIter (.ref l)) (fun it s₂ => LoopAtV prog w A h₀ env x body Q E it s₂) E s := by
  refine iter_invNL (news := led l₁ c₀) (fun i m nx => ∃ c : σ, nx = led l₁ c ∧ (∀ y, y ≠ x → m y = mm m₀ c y) ∧ P i c) hh (hlc c₀) hi F (news_sub N hN) ⟨c₀, rfl, hm, hp⟩ ?_ ?_
  · rintro i n t m₁ nx h tk own hn _ hoff _ ⟨c, rfl, h1, hp'⟩ F₁ N₁
    rw [ha] at hoff ⊢
    refine wpAny_mono (turn c i n t h tk own _ (fun _ _ x => x) hn hp' hoff (fr_under F₁ h1) N₁) (fun f s₂ p => ?_) fun _ _ e => e
    exact fpost_of ha (fun c m e hp => ⟨hlc c, c, rfl, e, hp⟩) p
  · rintro m₁ nx h tk _ ⟨c, rfl, h1, hp'⟩ F₁ N₁
    refine done c (m₁ x) h tk hp' (fr_ext F₁ fun y => ?_) N₁
    by_cases h : y = x
    · rw [if_pos h, h]
    · rw [if_neg h]; exact h1 y h
end
def NewInts (H h' : Heap) (ns : List Int) (v : Value) : Prop := ∃ l vs n, v = .ref l ∧ H.get? l = none ∧ h'.get? l = some (PySem.W.listOf (List.toArray vs) n) ∧ IntsAre vs ns
/-- a new tuple of a new list of ints and an int -/
def NewPair (H h' : Heap) (ns : List Int) (x : Int) (v : Value) : Prop := ∃ p l vs n k t, v = .ref p ∧ H.get? p = none ∧ H.get? l = none ∧ p ≠ l ∧
  h'.get? p = some { cls := .type "tuple", data := .seq #[.ref l, .int x t] k } ∧ h'.get? l = some (PySem.W.listOf (List.toArray vs) n) ∧ IntsAre vs ns
/-- a new tuple of two new lists of ints -/
def NewTwo (H h' : Heap) (ns ns' : List Int) (v : Value) : Prop := ∃ p l l' vs vs' n n' k, v = .ref p ∧ H.get? p = none ∧ H.get? l = none ∧ H.get? l' = none ∧ p ≠ l ∧ p ≠ l' ∧ l ≠ l' ∧
  h'.get? p = some { cls := .type "tuple", data := .seq #[.ref l, .ref l'] k } ∧ h'.get? l = some (PySem.W.listOf (List.toArray vs) n) ∧ IntsAre vs ns ∧ h'.get? l' = some (PySem.W.listOf (List.toArray vs') n') ∧ IntsAre vs' ns'
theorem newInts_of {H h : Heap} {L : Addr} {news : List (Addr × Obj)} {l : Addr} {vs : List Value} {n : Nat} {ns : List Int} (N : News H L h news) (hm : (l, PySem.W.listOf vs.toArray n) ∈ news) (hi : IntsAre vs ns) : NewInts H h ns (.ref l) :=
  ⟨l, vs, n, rfl, (N _ hm).2.2, (N _ hm).1, hi⟩
theorem tup_ne {h : Heap} {p l : Addr} {a : Array Value} {k n : Nat} {vs : Array Value} (h1 : h.get? p = some { cls := .type "tuple", data := .seq a k }) (h2 : h.get? l = some (PySem.W.listOf vs n)) : p ≠ l := by
  intro e
  rw [e, h2] at h1
  have h3 : Value.type "list" = Value.type "tuple" := congrArg (fun o => o.cls) (Option.some.inj h1)
  exact absurd h3 (by decide)
theorem newPair_of {H h : Heap} {L : Addr} {news : List (Addr × Obj)} {p l : Addr} {vs : List Value} {n k : Nat} {ns : List Int} {x : Int} {t : Tok} (N : News H L h news) (hp : (p, { cls := .type "tuple", data := .seq #[.ref l, .int x t] k }) ∈ news) (hl : (l, PySem.W.listOf vs.toArray n) ∈ news) (hi : IntsAre vs ns) : NewPair H h ns x (.ref p) :=
  ⟨p, l, vs, n, k, t, rfl, (N _ hp).2.2, (N _ hl).2.2, tup_ne (N _ hp).1 (N _ hl).1, (N _ hp).1, (N _ hl).1, hi⟩
theorem newTwo_of {H h : Heap} {L : Addr} {news : List (Addr × Obj)} {p l l' : Addr} {vs vs' : List Value} {n n' k : Nat} {ns ns' : List Int} (N : News H L h news) (hp : (p, { cls := .type "tuple", data := .seq #[.ref l, .ref l'] k }) ∈ news) (hl : (l, PySem.W.listOf vs.toArray n) ∈ news) (hl' : (l', PySem.W.listOf vs'.toArray n') ∈ news) (hll : l ≠ l') (hi : IntsAre vs ns) (hi' : IntsAre vs' ns') : NewTwo H h ns ns' (.ref p) :=
  ⟨p, l, l', vs, vs', n, n', k, rfl, (N _ hp).2.2, (N _ hl).2.2, (N _ hl').2.2, tup_ne (N _ hp).1 (N _ hl).1, tup_ne (N _ hp).1 (N _ hl').1, hll, (N _ hp).1, (N _ hl).1, hi, (N _ hl').1, hi'⟩
section
variable {h₀ h h' : Heap} {L : Addr} {m : Str → Option Value} {news : List (Addr × Obj)}
theorem news_new {l : Addr} {o : Obj} (F : Fr h₀ L h m) (N' : News h₀ L h' news) (hf : h.get? l = none) (ho : h'.get? l = some o) : News h₀ L h' ((l, o) :: news) := by
  intro p hp
  rcases List.mem_cons.mp hp with rfl | hp
  · refine ⟨ho, fun e => ?_, ?_⟩
    · obtain ⟨oL, _, _, hL, _⟩ := F.ns
      have e' : l = L := e
      rw [e', hL] at hf; cases hf
    · cases q : h₀.get? l with
      | none => rfl
      | some o' => rw [F.keep _ _ q] at hf; cases hf
  · exact N' p hp
theorem news_apart {l : Addr} (N : News h₀ L h news) (hf : h.get? l = none) : ∀ p ∈ news, p.1 ≠ l := by
  intro p hp e
  have := (N p hp).1
  rw [e, hf] at this; cases this
end
section
variable {W : Wd} {d u : Nat} {f : Addr} {vs : List Value} {A : Around} {fr : List Env} {base h₀ : Heap} {L : Addr} {m : Str → Option Value} {news : List (Addr × Obj)} {s : Shared} {Q E : Value → Shared → Prop}
    {cn : Str} {cs : Scope} {a : Addr} {cd : Value}
theorem Does.useV {R : Value → Prop} (F : Fr h₀ L s.heap m) (N : News h₀ L s.heap news) (B : Below A base fr h₀) (X : (hd.heap_39 W.w.params).In h₀) (T : Top hd.view_39 (looseW hd.view_39 []) W.mean W.mg W.mb h₀) (hk : cs.kind = .function) (hh : A.handled = none)
    (D : Does W d u f vs s.heap (fun _ v => R v)) (hd : A.depth + 1 + d < recursionLimit) (hu : A.units + 3 + u < cLine)
    (k : ∀ v h' tk, Fr h₀ L h' m → News h₀ L h' news → R v → Q v { s with heap := h', toks := tk }) :
    wpAny (model PySem.Challenge.rw_nn0010_01.row.prog W.w) (A.deeper (envOf cn cs L a cd)) (call (.ref f) vs) Q E s :=
  Does.use F N B X T hk hh D hd hu fun v h' tk F' N' _ _ _ r => k v h' tk F' N' r
theorem Does.useI {x : Int} (F : Fr h₀ L s.heap m) (N : News h₀ L s.heap news) (B : Below A base fr h₀) (X : (hd.heap_39 W.w.params).In h₀) (T : Top hd.view_39 (looseW hd.view_39 []) W.mean W.mg W.mb h₀) (hk : cs.kind = .function) (hh : A.handled = none)
    (D : Does W d u f vs s.heap (fun _ v => ∃ t, v = .int x t)) (hd : A.depth + 1 + d < recursionLimit) (hu : A.units + 3 + u < cLine)
    (k : ∀ t h' tk, Fr h₀ L h' m → News h₀ L h' news → Q (.int x t) { s with heap := h', toks := tk }) :
    wpAny (model PySem.Challenge.rw_nn0010_01.row.prog W.w) (A.deeper (envOf cn cs L a cd)) (call (.ref f) vs) Q E s :=
  Does.use F N B X T hk hh D hd hu fun v h' tk F' N' _ _ _ r => by obtain ⟨t, rfl⟩ := r; exact k t h' tk F' N'
theorem Does.useL {ns : List Int} (F : Fr h₀ L s.heap m) (N : News h₀ L s.heap news) (B : Below A base fr h₀) (X : (hd.heap_39 W.w.params).In h₀) (T : Top hd.view_39 (looseW hd.view_39 []) W.mean W.mg W.mb h₀) (hk : cs.kind = .function) (hh : A.handled = none)
    (D : Does W d u f vs s.heap (fun h' v => NewInts s.heap h' ns v)) (hd : A.depth + 1 + d < recursionLimit) (hu : A.units + 3 + u < cLine)
    (k : ∀ l its n h' tk, Fr h₀ L h' m → News h₀ L h' ((l, PySem.W.listOf (List.toArray its) n) :: news) → (∀ p ∈ news, p.1 ≠ l) → IntsAre its ns → Q (.ref l) { s with heap := h', toks := tk }) :
    wpAny (model PySem.Challenge.rw_nn0010_01.row.prog W.w) (A.deeper (envOf cn cs L a cd)) (call (.ref f) vs) Q E s :=
  Does.use F N B X T hk hh D hd hu fun v h' tk F' N' _ _ _ r => by
    obtain ⟨l, its, n, rfl, hf, ho, hi⟩ := r
    exact k l its n h' tk F' (news_new F N' hf ho) (news_apart N hf) hi
theorem Does.useP {ns : List Int} {x : Int} (F : Fr h₀ L s.heap m) (N : News h₀ L s.heap news) (B : Below A base fr h₀) (X : (hd.heap_39 W.w.params).In h₀) (T : Top hd.view_39 (looseW hd.view_39 []) W.mean W.mg W.mb h₀) (hk : cs.kind = .function) (hh : A.handled = none)
    (D : Does W d u f vs s.heap (fun h' v => NewPair s.heap h' ns x v)) (hd : A.depth + 1 + d < recursionLimit) (hu : A.units + 3 + u < cLine)
    (k : ∀ p l its n k t h' tk, Fr h₀ L h' m → News h₀ L h' ((p, { cls := .type "tuple", data := .seq #[.ref l, .int x t] k }) :: (l, PySem.W.listOf (List.toArray its) n) :: news) → (∀ q ∈ news, q.1 ≠ p) → (∀ q ∈ news, q.1 ≠ l) → p ≠ l → IntsAre its ns → Q (.ref p) { s with heap := h', toks := tk }) :
    wpAny (model PySem.Challenge.rw_nn0010_01.row.prog W.w) (A.deeper (envOf cn cs L a cd)) (call (.ref f) vs) Q E s :=
  Does.use F N B X T hk hh D hd hu fun v h' tk F' N' _ _ _ r => by
    obtain ⟨p, l, its, n, j, t, rfl, hfp, hfl, hpl, hop, hol, hi⟩ := r
    exact k p l its n j t h' tk F' (news_new F (news_new F N' hfl hol) hfp hop) (news_apart N hfp) (news_apart N hfl) hpl hi
theorem Does.useT {ns ns' : List Int} (F : Fr h₀ L s.heap m) (N : News h₀ L s.heap news) (B : Below A base fr h₀) (X : (hd.heap_39 W.w.params).In h₀) (T : Top hd.view_39 (looseW hd.view_39 []) W.mean W.mg W.mb h₀) (hk : cs.kind = .function) (hh : A.handled = none)
    (D : Does W d u f vs s.heap (fun h' v => NewTwo s.heap h' ns ns' v)) (hd : A.depth + 1 + d < recursionLimit) (hu : A.units + 3 + u < cLine)
    (k : ∀ p l l' its its' n n' k h' tk, Fr h₀ L h' m → News h₀ L h' ((p, { cls := .type "tuple", data := .seq #[.ref l, .ref l'] k }) :: (l, PySem.W.listOf (List.toArray its) n) :: (l', PySem.W.listOf (List.toArray its') n') :: news) → (∀ q ∈ news, q.1 ≠ p) → (∀ q ∈ news, q.1 ≠ l) → (∀ q ∈ news, q.1 ≠ l') → p ≠ l → p ≠ l' → l ≠ l' → IntsAre its ns → IntsAre its' ns' → Q (.ref p) { s with heap := h', toks := tk }) :
    wpAny (model PySem.Challenge.rw_nn0010_01.row.prog W.w) (A.deeper (envOf cn cs L a cd)) (call (.ref f) vs) Q E s :=
  Does.use F N B X T hk hh D hd hu fun v h' tk F' N' _ _ _ r => by
    obtain ⟨p, l, l', its, its', n, n', j, rfl, hfp, hfl, hfl', hpl, hpl', hll, hop, hol, hi, hol', hi'⟩ := r
    exact k p l l' its its' n n' j h' tk F' (news_new F (news_new F (news_new F N' hfl' hol') hfl hol) hfp hop) (news_apart N hfp) (news_apart N hfl) (news_apart N hfl') hpl hpl' hll hi hi'
end
end Mine
end
noncomputable section
namespace Mine
/-- the digits of n in base B, the least first -/
noncomputable def dig (B : Nat) (n : Nat) : List Int :=
  if h : n = 0 ∨ B < 2 then [] else ((n % B : Nat) : Int) :: dig B (n / B)
termination_by n
decreasing_by exact Nat.div_lt_self (by omega) (by omega)
/-- the limbs of x at the width w -/
def lm (w x : Int) : List Int := dig (2 ^ w.toNat) x.toNat
end Mine
end
noncomputable section
open PySem
namespace Mine
theorem two_pow_cast (k : Nat) : ((2 ^ k : Nat) : Int) = (2 : Int) ^ k := by simp [Int.natCast_pow]
theorem two_pow_pos (k : Nat) : (0 : Int) < 2 ^ k := by
  rw [← two_pow_cast]; exact Int.natCast_pos.mpr (Nat.two_pow_pos k)
theorem bitAnd_mask (x : Int) (k : Nat) (hx : 0 ≤ x) : Builtin.bitAnd x (1 * 2 ^ k - 1) = ((x.toNat % 2 ^ k : Nat) : Int) := by
  have hp := two_pow_pos k
  have h1 : (0 : Int) ≤ 1 * 2 ^ k - 1 := by omega
  unfold Builtin.bitAnd
  rw [decide_eq_true hx, decide_eq_true h1]
  dsimp only
  have h2 : (1 * (2 : Int) ^ k - 1).toNat = 2 ^ k - 1 := by
    rw [← two_pow_cast]
    have := Nat.two_pow_pos k
    omega
  rw [h2, Nat.and_two_pow_sub_one_eq_mod]
theorem fdiv_toNat (x : Int) (k : Nat) (hx : 0 ≤ x) : (x.fdiv (2 ^ k)).toNat = x.toNat / 2 ^ k := by
  rw [← two_pow_cast]
  obtain ⟨n, rfl⟩ := Int.eq_ofNat_of_zero_le hx
  rw [Int.fdiv_eq_ediv_of_nonneg _ (Int.natCast_nonneg _)]
  rw [← Int.natCast_ediv, Int.toNat_natCast, Int.toNat_natCast]
theorem fdiv_nonneg (x : Int) (k : Nat) (hx : 0 ≤ x) : 0 ≤ x.fdiv (2 ^ k) := by
  rw [Int.fdiv_eq_ediv_of_nonneg _ (Int.le_of_lt (two_pow_pos k))]
  exact Int.ediv_nonneg hx (Int.le_of_lt (two_pow_pos k))
theorem dig_zero (B : Nat) : dig B 0 = [] := by unfold dig; simp
theorem dig_pos {B n : Nat} (hB : 2 ≤ B) (hn : n ≠ 0) : dig B n = ((n % B : Nat) : Int) :: dig B (n / B) := by
  rw [dig]; rw [dif_neg (by omega)]
theorem lm_zero (w : Int) : lm w 0 = [] := dig_zero _
theorem two_le_pow {k : Nat} (hk : 1 ≤ k) : 2 ≤ 2 ^ k := by
  calc 2 = 2 ^ 1 := rfl
    _ ≤ 2 ^ k := Nat.pow_le_pow_right (by omega) hk
theorem lm_and {w x : Int} (hw : 1 ≤ w) (hx : 0 < x) : lm w x = Builtin.bitAnd x (1 * 2 ^ w.toNat - 1) :: lm w (x.fdiv (2 ^ w.toNat)) := by
  unfold lm
  rw [dig_pos (two_le_pow (by omega)) (by omega), bitAnd_mask _ _ (by omega), fdiv_toNat _ _ (by omega)]
theorem fdiv_lt {w x : Int} (hw : 1 ≤ w) (hx : 0 < x) : (x.fdiv (2 ^ w.toNat)).toNat < x.toNat := by
  rw [fdiv_toNat _ _ (by omega)]
  exact Nat.div_lt_self (by omega) (Nat.lt_of_lt_of_le (by omega) (two_le_pow (k := w.toNat) (by omega)))
end Mine
end
noncomputable section
open PySem
namespace Mine
theorem and_mod {x : Int} (k : Nat) (hx : 0 ≤ x) : Builtin.bitAnd x (1 * 2 ^ k - 1) = x % 2 ^ k := by
  rw [bitAnd_mask x k hx, ← two_pow_cast, Int.natCast_emod, Int.toNat_of_nonneg hx]
theorem fdiv_ediv (x : Int) (k : Nat) : x.fdiv (2 ^ k) = x / 2 ^ k :=
  Int.fdiv_eq_ediv_of_nonneg _ (Int.le_of_lt (two_pow_pos k))
theorem fmod_emod (x : Int) (k : Nat) : x.fmod (1 * 2 ^ k) = x % 2 ^ k := by
  rw [Int.one_mul]; exact Int.fmod_eq_emod_of_nonneg _ (Int.le_of_lt (two_pow_pos k))
theorem two_le_powI {w : Int} (hw : 1 ≤ w) : (2 : Int) ≤ 2 ^ w.toNat := by
  rw [← two_pow_cast]
  exact_mod_cast two_le_pow (k := w.toNat) (by omega)
theorem lm_cons {w t : Int} (hw : 1 ≤ w) (ht : 0 < t) : lm w t = (t % 2 ^ w.toNat) :: lm w (t / 2 ^ w.toNat) := by
  rw [lm_and hw ht, and_mod _ (by omega), fdiv_ediv]
theorem lm_neg {w t : Int} (ht : t ≤ 0) : lm w t = [] := by
  unfold lm
  rw [show t.toNat = 0 by omega]
  exact dig_zero _
theorem lm_pos_of_ne {w t : Int} (h : lm w t ≠ []) : 0 < t := by
  by_cases ht : t ≤ 0
  · exact absurd (lm_neg ht) h
  · omega
theorem lm_ne {w t : Int} (hw : 1 ≤ w) (ht : 0 < t) : lm w t ≠ [] := by
  rw [lm_cons hw ht]; exact List.cons_ne_nil _ _
theorem ediv_nn {x B : Int} (hx : 0 ≤ x) (hB : 2 ≤ B) : 0 ≤ x / B := Int.ediv_nonneg hx (by omega)
theorem lm_small {w t : Int} (hw : 1 ≤ w) (ht : 0 < t) (h : t < 2 ^ w.toNat) : lm w t = [t] := by
  rw [lm_cons hw ht, Int.emod_eq_of_lt (by omega) h, Int.ediv_eq_zero_of_lt (by omega) h, lm_zero]
/-- what stands from the place i on -/
theorem lm_at {w X : Int} {as : List Int} {i : Nat} (hw : 1 ≤ w) (h : as.drop i = lm w X) (hi : i < as.length) : 0 < X ∧ as.getD i 0 = X % 2 ^ w.toNat ∧ as[i]? = some (X % 2 ^ w.toNat) ∧ as.drop (i + 1) = lm w (X / 2 ^ w.toNat) := by
  have hne : lm w X ≠ [] := by
    rw [← h]; intro e
    have := congrArg List.length e
    simp at this; omega
  have hX := lm_pos_of_ne hne
  rw [lm_cons hw hX] at h
  have h0 : as[i]? = some (X % 2 ^ w.toNat) := by
    have := congrArg (fun l => l[0]?) h
    simpa using this
  refine ⟨hX, by simp [List.getD, h0], h0, ?_⟩
  have := congrArg List.tail h
  simpa using this
theorem lm_done {w X : Int} {as : List Int} {i : Nat} (hw : 1 ≤ w) (hX : 0 ≤ X) (h : as.drop i = lm w X) (hi : as.length ≤ i) : X = 0 := by
  have e : as.drop i = [] := List.drop_eq_nil_of_le hi
  rw [e] at h
  by_cases hp : 0 < X
  · exact absurd h.symm (lm_ne hw hp)
  · omega
theorem ediv2 {x b c : Int} (hb : 0 ≤ b) : x / b / c = x / (b * c) := by
  rw [Int.ediv_ediv, if_neg (by omega), Int.sub_zero]
theorem lm_drop {w x : Int} (hw : 1 ≤ w) (hx : 0 ≤ x) (i : Nat) : (lm w x).drop i = lm w (x / (2 ^ w.toNat) ^ i) := by
  have hB := two_le_powI hw
  induction i with
  | zero => simp
  | succ i ih =>
    by_cases hi : i < (lm w x).length
    · rw [(lm_at hw ih hi).2.2.2, Int.pow_succ, ediv2 (Int.pow_nonneg (by omega))]
    · have h0 := lm_done hw (Int.ediv_nonneg hx (Int.pow_nonneg (by omega))) ih (by omega)
      rw [List.drop_eq_nil_of_le (by omega), Int.pow_succ, ← ediv2 (Int.pow_nonneg (by omega)), h0, Int.zero_ediv, lm_zero]
theorem split_mod (X B : Int) : X = B * (X / B) + X % B := (Int.mul_ediv_add_emod X B).symm
theorem lm_add_step {w X Y c : Int} (hw : 1 ≤ w) (hX : 0 ≤ X) (hY : 0 ≤ Y) (hc : 0 ≤ c) (hp : 0 < X + Y + c) :
    lm w (X + Y + c) = ((c + (X % 2 ^ w.toNat + Y % 2 ^ w.toNat)) % 2 ^ w.toNat) :: lm w (X / 2 ^ w.toNat + Y / 2 ^ w.toNat + (c + (X % 2 ^ w.toNat + Y % 2 ^ w.toNat)) / 2 ^ w.toNat) := by
  have hB := two_le_powI hw
  rw [lm_cons hw hp]
  generalize (2 : Int) ^ w.toNat = B at *
  have e : X + Y + c = (c + (X % B + Y % B)) + B * (X / B + Y / B) := by
    have h1 := split_mod X B
    have h2 := split_mod Y B
    rw [Int.mul_add]; omega
  have hB0 : B ≠ 0 := by omega
  rw [e, Int.add_mul_emod_self_left, Int.add_mul_ediv_left _ _ hB0, Int.add_comm (_ / B)]
theorem lm_mul_step {w X k c : Int} (hw : 1 ≤ w) (_hX : 0 ≤ X) (_hc : 0 ≤ c) (hp : 0 < X * k + c) :
    lm w (X * k + c) = ((c + X % 2 ^ w.toNat * k) % 2 ^ w.toNat) :: lm w (X / 2 ^ w.toNat * k + (c + X % 2 ^ w.toNat * k) / 2 ^ w.toNat) := by
  have hB := two_le_powI hw
  rw [lm_cons hw hp]
  generalize (2 : Int) ^ w.toNat = B at *
  have e : X * k + c = (c + X % B * k) + B * (X / B * k) := by
    have h1 := split_mod X B
    have h2 : X * k = (B * (X / B) + X % B) * k := by rw [← h1]
    rw [Int.add_mul, Int.mul_assoc] at h2
    omega
  have hB0 : B ≠ 0 := by omega
  rw [e, Int.add_mul_emod_self_left, Int.add_mul_ediv_left _ _ hB0, Int.add_comm (_ / B)]
theorem carry_lt {B X k c : Int} (hB : 2 ≤ B) (hk : 0 ≤ k) (hkB : k < B) (hc : 0 ≤ c) (hcB : c < B) : 0 ≤ (c + X % B * k) / B ∧ (c + X % B * k) / B < B := by
  have h0 := Int.emod_nonneg X (show B ≠ 0 by omega)
  have h1 := Int.emod_lt_of_pos X (show 0 < B by omega)
  have h2 : 0 ≤ X % B * k := Int.mul_nonneg h0 hk
  have h3 : X % B * k ≤ (B - 1) * (B - 1) := Int.mul_le_mul (by omega) (by omega) hk (by omega)
  refine ⟨Int.ediv_nonneg (by omega) (by omega), Int.ediv_lt_of_lt_mul (by omega) ?_⟩
  have h4 : (B - 1) * (B - 1) = B * B - B - B + 1 := by rw [Int.sub_mul, Int.mul_sub]; omega
  omega
theorem pow_le_512 {w : Int} (hw : w ≤ 9) : (2 : Int) ^ w.toNat ≤ 512 := by
  rw [← two_pow_cast]
  have : 2 ^ w.toNat ≤ 2 ^ 9 := Nat.pow_le_pow_right (by omega) (by omega)
  omega
theorem lm_get {w X d : Int} {as : List Int} {i : Nat} (hw : 1 ≤ w) (h : as.drop i = lm w X) (hi : as[i]? = some d) : 0 < X ∧ 0 ≤ d ∧ d < 2 ^ w.toNat ∧ d = X % 2 ^ w.toNat ∧ as.drop (i + 1) = lm w (X / 2 ^ w.toNat) := by
  have hlt : i < as.length := by
    by_cases h' : i < as.length
    · exact h'
    · rw [List.getElem?_eq_none (by omega)] at hi; cases hi
  obtain ⟨h1, _, h3, h4⟩ := lm_at hw h hlt
  have hB := two_le_powI hw
  rw [hi] at h3
  have e := Option.some.inj h3
  exact ⟨h1, e ▸ Int.emod_nonneg _ (by omega), e ▸ Int.emod_lt_of_pos _ (by omega), e, h4⟩
theorem carry_le1 {B X Y c : Int} (hB : 2 ≤ B) (hc : 0 ≤ c) (hc1 : c ≤ 1) : 0 ≤ (c + (X % B + Y % B)) / B ∧ (c + (X % B + Y % B)) / B ≤ 1 := by
  have h0 := Int.emod_nonneg X (show B ≠ 0 by omega)
  have h1 := Int.emod_lt_of_pos X (show 0 < B by omega)
  have h2 := Int.emod_nonneg Y (show B ≠ 0 by omega)
  have h3 := Int.emod_lt_of_pos Y (show 0 < B by omega)
  refine ⟨Int.ediv_nonneg (by omega) (by omega), ?_⟩
  have : (c + (X % B + Y % B)) / B < 2 := Int.ediv_lt_of_lt_mul (by omega) (by omega)
  omega
end Mine
end
noncomputable section
open PySem
namespace Mine
theorem lm_len_div {w x : Int} (hw : 1 ≤ w) (hx : 0 ≤ x) : x / (2 ^ w.toNat) ^ (lm w x).length = 0 := by
  have hB := two_le_powI hw
  have h := lm_drop hw hx (lm w x).length
  exact lm_done hw (Int.ediv_nonneg hx (Int.pow_nonneg (by omega))) h (Nat.le_refl _)
theorem pow_step {w x : Int} (hw : 1 ≤ w) (j : Nat) : x / (2 ^ w.toNat) ^ j = (x / (2 ^ w.toNat) ^ (j + 1)) * 2 ^ w.toNat + (x / (2 ^ w.toNat) ^ j) % 2 ^ w.toNat := by
  have hB := two_le_powI hw
  have h := split_mod (x / (2 ^ w.toNat) ^ j) (2 ^ w.toNat)
  rw [ediv2 (Int.pow_nonneg (by omega)), ← Int.pow_succ, Int.mul_comm] at h
  exact h
theorem lm_item {w x : Int} (hw : 1 ≤ w) (hx : 0 ≤ x) {j : Nat} (hj : j < (lm w x).length) : (lm w x)[j]? = some ((x / (2 ^ w.toNat) ^ j) % 2 ^ w.toNat) ∧ (lm w x).getD j 0 = (x / (2 ^ w.toNat) ^ j) % 2 ^ w.toNat ∧ 0 < x / (2 ^ w.toNat) ^ j :=
  have h := lm_at hw (lm_drop hw hx j) hj
  ⟨h.2.2.1, h.2.1, h.1⟩
theorem lm_rev {w x d : Int} (hw : 1 ≤ w) (hx : 0 ≤ x) {i : Nat} (h : (lm w x).reverse[i]? = some d) :
    i < (lm w x).length ∧ 0 ≤ d ∧ d < 2 ^ w.toNat ∧ x / (2 ^ w.toNat) ^ ((lm w x).length - (i + 1)) = (x / (2 ^ w.toNat) ^ ((lm w x).length - i)) * 2 ^ w.toNat + d := by
  have hB := two_le_powI hw
  have hi : i < (lm w x).length := by
    by_cases h' : i < (lm w x).length
    · exact h'
    · rw [List.getElem?_eq_none (by simp; omega)] at h; cases h
  rw [List.getElem?_reverse (by omega), (lm_item hw hx (by omega)).1] at h
  have e := Option.some.inj h
  have e1 : (lm w x).length - 1 - i = (lm w x).length - (i + 1) := by omega
  rw [e1] at e
  refine ⟨hi, e ▸ Int.emod_nonneg _ (by omega), e ▸ Int.emod_lt_of_pos _ (by omega), ?_⟩
  have hs := pow_step (x := x) hw ((lm w x).length - (i + 1))
  rw [e, show (lm w x).length - (i + 1) + 1 = (lm w x).length - i by omega] at hs
  exact hs
theorem lm_last {w x : Int} (hw : 1 ≤ w) (hx : 0 ≤ x) (hl : 0 < (lm w x).length) : (lm w x).getD ((lm w x).length - 1) 0 ≠ 0 := by
  have hB := two_le_powI hw
  obtain ⟨_, h2, h3⟩ := lm_item hw hx (j := (lm w x).length - 1) (by omega)
  rw [h2]
  have hs := pow_step (x := x) hw ((lm w x).length - 1)
  rw [show (lm w x).length - 1 + 1 = (lm w x).length by omega, lm_len_div hw hx, Int.zero_mul, Int.zero_add] at hs
  omega
theorem lm_lt {w x : Int} (hw : 1 ≤ w) (hx : 0 ≤ x) : x < (2 ^ w.toNat) ^ (lm w x).length := by
  have hB := two_le_powI hw
  have h := lm_len_div hw hx
  have hp : (0 : Int) < (2 ^ w.toNat) ^ (lm w x).length := Int.pow_pos (by omega)
  have := Int.mul_ediv_add_emod x ((2 ^ w.toNat) ^ (lm w x).length)
  rw [h, Int.mul_zero, Int.zero_add] at this
  have h2 := Int.emod_lt_of_pos x hp
  omega
theorem intBits_le {c : Int} {k : Nat} (h0 : 0 ≤ c) (h : c < 2 ^ k) : Builtin.Int.intBits c ≤ k := by
  unfold Builtin.Int.intBits
  split
  · exact Nat.zero_le _
  · rename_i hne
    have hc : c ≠ 0 := by simpa using hne
    have hn : c.natAbs < 2 ^ k := by
      rw [← two_pow_cast] at h
      omega
    have : c.natAbs.log2 < k := (Nat.log2_lt (by omega)).mpr hn
    omega
theorem bits_lm {w x c : Int} (hw : 1 ≤ w) (hc : 0 ≤ c) (hcx : c ≤ x) : Builtin.Int.intBits c ≤ w.toNat * (lm w x).length := by
  have h := lm_lt (w := w) (x := x) hw (by omega)
  rw [← Int.pow_mul] at h
  exact intBits_le hc (by omega)
theorem bits_small {w x c : Int} (hw : 1 ≤ w) (hw9 : w ≤ 9) (hc : 0 ≤ c) (hcx : c ≤ x) (hl : (lm w x).length < 1048576) : (Builtin.Int.intBits c : Int) ≤ 9437184 := by
  have h := bits_lm hw hc hcx
  have : w.toNat * (lm w x).length ≤ 9 * 1048576 := Nat.mul_le_mul (by omega) (by omega)
  omega
theorem shift_fits {w x c : Int} (hw : 1 ≤ w) (hw9 : w ≤ 9) (hc : 0 ≤ c) (hcx : c ≤ x) (hl : (lm w x).length < 1048576) : (Builtin.Int.intBits c : Int) + w ≤ 2 ^ 27 := by
  have := bits_small hw hw9 hc hcx hl
  have e : (2 : Int) ^ 27 = 134217728 := by decide
  omega
theorem div_le {x B : Int} {k : Nat} (hx : 0 ≤ x) (hB : 1 ≤ B) : x / B ^ k ≤ x := by
  have h1 : (1 : Int) ≤ B ^ k := Int.pow_pos (by omega)
  have := Int.ediv_le_self (a := x) (B ^ k) hx
  exact this
/-- noughts struck off the end -/
def strip0 (l : List Int) : List Int := (l.reverse.dropWhile (fun v => v == 0)).reverse
theorem strip0_nil : strip0 [] = [] := rfl
theorem strip0_zero (l : List Int) : strip0 (l ++ [0]) = strip0 l := by simp [strip0]
theorem strip0_ne (l : List Int) {v : Int} (h : v ≠ 0) : strip0 (l ++ [v]) = l ++ [v] := by simp [strip0, h]
theorem take_last (l : List Int) {e : Nat} (h0 : 0 < e) (he : e ≤ l.length) : l.take e = l.take (e - 1) ++ [l.getD (e - 1) 0] := by
  obtain ⟨k, rfl⟩ : ∃ k, e = k + 1 := ⟨e - 1, by omega⟩
  have hk : k < l.length := by omega
  rw [List.take_add_one]
  simp [hk, List.getD]
/-- the compare of two equally long rows -/
theorem lm_inj {w x y : Int} (hw : 1 ≤ w) (hx : 0 ≤ x) (hy : 0 ≤ y) (h : lm w x = lm w y) : x = y := by
  have hB := two_le_powI hw
  have hlen := congrArg List.length h
  have : ∀ j, j ≤ (lm w x).length → x / (2 ^ w.toNat) ^ ((lm w x).length - j) = y / (2 ^ w.toNat) ^ ((lm w x).length - j) := by
    intro j
    induction j with
    | zero =>
      intro _
      rw [Nat.sub_zero, lm_len_div hw hx, h, lm_len_div hw hy]
    | succ j ih =>
      intro hj
      have e1 := pow_step (x := x) hw ((lm w x).length - (j + 1))
      have e2 := pow_step (x := y) hw ((lm w x).length - (j + 1))
      have e3 := (lm_item hw hx (j := (lm w x).length - (j + 1)) (by omega)).1
      have e4 := (lm_item hw hy (j := (lm w x).length - (j + 1)) (by omega)).1
      rw [← h, e3] at e4
      have e5 := Option.some.inj e4
      rw [show (lm w x).length - (j + 1) + 1 = (lm w x).length - j by omega] at e1 e2
      rw [ih (by omega)] at e1
      rw [e1, e5, ← e2]
  have := this (lm w x).length (Nat.le_refl _)
  simpa using this
theorem lm_len_mono {w x y : Int} (hw : 1 ≤ w) (hx : 0 ≤ x) (hxy : x ≤ y) : (lm w x).length ≤ (lm w y).length := by
  have hB := two_le_powI hw
  by_cases h : (lm w x).length ≤ (lm w y).length
  · exact h
  · have h1 := (lm_item hw hx (j := (lm w y).length) (by omega)).2.2
    have h2 := lm_len_div (w := w) (x := y) hw (by omega)
    have h3 : x / (2 ^ w.toNat) ^ (lm w y).length ≤ y / (2 ^ w.toNat) ^ (lm w y).length := Int.ediv_le_ediv (Int.pow_pos (by omega)) hxy
    omega
def cmpI (x y : Int) : Int := if x < y then -1 else if x = y then 0 else 1
theorem cmp_len_lt {w x y : Int} (hw : 1 ≤ w) (_hx : 0 ≤ x) (hy : 0 ≤ y) (h : (lm w x).length < (lm w y).length) : cmpI x y = -1 := by
  unfold cmpI
  by_cases hxy : x < y
  · rw [if_pos hxy]
  · have := lm_len_mono (w := w) (x := y) (y := x) hw hy (by omega)
    omega
theorem cmp_len_gt {w x y : Int} (hw : 1 ≤ w) (hx : 0 ≤ x) (_hy : 0 ≤ y) (h : (lm w y).length < (lm w x).length) : cmpI x y = 1 := by
  unfold cmpI
  by_cases hxy : x ≤ y
  · have := lm_len_mono (w := w) (x := x) (y := y) hw hx (by omega)
    omega
  · rw [if_neg (by omega), if_neg (by omega)]
theorem cmp_eq {x y : Int} (h : x = y) : cmpI x y = 0 := by subst h; simp [cmpI]
/-- equal from j on, apart at j - 1 -/
theorem cmp_at {w x y : Int} {j : Nat} (hw : 1 ≤ w) (hx : 0 ≤ x) (hy : 0 ≤ y) (hl : (lm w x).length = (lm w y).length) (hj : j + 1 ≤ (lm w x).length) (hd : (lm w x).drop (j + 1) = (lm w y).drop (j + 1))
    (hne : (lm w x).getD j 0 ≠ (lm w y).getD j 0) : cmpI x y = if (lm w x).getD j 0 < (lm w y).getD j 0 then -1 else 1 := by
  have hB := two_le_powI hw
  have hBj : (0 : Int) < (2 ^ w.toNat) ^ j := Int.pow_pos (by omega)
  rw [lm_drop hw hx, lm_drop hw hy] at hd
  have hq := lm_inj hw (Int.ediv_nonneg hx (Int.pow_nonneg (by omega))) (Int.ediv_nonneg hy (Int.pow_nonneg (by omega))) hd
  have h1 := (lm_item hw hx (j := j) (by omega)).2.1
  have h2 := (lm_item hw hy (j := j) (by omega)).2.1
  have e1 := pow_step (x := x) hw j
  have e2 := pow_step (x := y) hw j
  rw [h1, h2] at hne ⊢
  rw [hq] at e1
  unfold cmpI
  by_cases hlt : (x / (2 ^ w.toNat) ^ j) % 2 ^ w.toNat < (y / (2 ^ w.toNat) ^ j) % 2 ^ w.toNat
  · rw [if_pos hlt]
    have : ¬ y ≤ x := fun hyx => by
      have := Int.ediv_le_ediv hBj hyx
      omega
    rw [if_pos (by omega)]
  · rw [if_neg hlt]
    have : ¬ x ≤ y := fun hxy => by
      have := Int.ediv_le_ediv hBj hxy
      omega
    rw [if_neg (by omega), if_neg (by omega)]
theorem drop_step {as bs : List Int} {j : Nat} (hl : as.length = bs.length) (hj : j < as.length) (hd : as.drop (j + 1) = bs.drop (j + 1)) (he : as.getD j 0 = bs.getD j 0) : as.drop j = bs.drop j := by
  have hj2 : j < bs.length := by omega
  rw [List.drop_eq_getElem_cons hj, List.drop_eq_getElem_cons hj2, hd]
  simp [List.getD, hj, hj2] at he
  rw [he]
end Mine
end
noncomputable section
open PySem
namespace Mine
theorem dig_fd0 {x b : Int} (hx : 0 ≤ x) (hb : 2 ≤ b) : 0 ≤ x.fdiv b := by
  rw [Int.fdiv_eq_ediv_of_nonneg _ (by omega)]; exact Int.ediv_nonneg hx (by omega)
theorem toNat_div {x b : Int} (hx : 0 ≤ x) (hb : 0 ≤ b) : (x / b).toNat = x.toNat / b.toNat := by
  obtain ⟨n, rfl⟩ := Int.eq_ofNat_of_zero_le hx
  obtain ⟨m, rfl⟩ := Int.eq_ofNat_of_zero_le hb
  rw [← Int.natCast_ediv, Int.toNat_natCast, Int.toNat_natCast, Int.toNat_natCast]
theorem toNat_mod {x b : Int} (hx : 0 ≤ x) (hb : 0 ≤ b) : x % b = ((x.toNat % b.toNat : Nat) : Int) := by
  obtain ⟨n, rfl⟩ := Int.eq_ofNat_of_zero_le hx
  obtain ⟨m, rfl⟩ := Int.eq_ofNat_of_zero_le hb
  rw [Int.natCast_emod, Int.toNat_natCast, Int.toNat_natCast]
theorem dig_fd {x b : Int} (hx : 0 < x) (hb : 2 ≤ b) : dig b.toNat x.toNat = x.fmod b :: dig b.toNat (x.fdiv b).toNat := by
  rw [Int.fmod_eq_emod_of_nonneg _ (by omega), Int.fdiv_eq_ediv_of_nonneg _ (by omega), dig_pos (by omega) (by omega), toNat_div (by omega) (by omega), toNat_mod (by omega) (by omega)]
theorem dig_fdlt {x b : Int} (hx : 0 < x) (hb : 2 ≤ b) : (x.fdiv b).toNat < x.toNat := by
  rw [Int.fdiv_eq_ediv_of_nonneg _ (by omega), toNat_div (by omega) (by omega)]
  exact Nat.div_lt_self (by omega) (by omega)
/-- what a row of digits tells, the greatest first -/
def worth (b : Int) (ds : List Int) : Int := ds.foldl (fun a d => a * b + d) 0
theorem worth_nil (b : Int) : worth b [] = 0 := rfl
theorem worth_snoc (b : Int) (ds : List Int) (d : Int) : worth b (ds ++ [d]) = worth b ds * b + d := by simp [worth]
theorem worth_take {b : Int} {ds : List Int} {i : Nat} {d : Int} (h : ds[i]? = some d) : worth b (ds.take (i + 1)) = worth b (ds.take i) * b + d := by
  rw [List.take_add_one, h]; exact worth_snoc _ _ _
theorem flat_rep (n : Nat) : (List.replicate n [(0 : Int)]).flatten = List.replicate n 0 := by
  induction n with
  | zero => rfl
  | succ n ih => simp [List.replicate_succ, ih]
/-- the law's cell -/
def cell (ns : List Int) (k : Int) : Int :=
  if ns.length = 0 then 7919 * k * k + 104729 * k + 31
  else (if ns.getD (k.fmod ns.length).toNat 0 < 0 then - ns.getD (k.fmod ns.length).toNat 0 else ns.getD (k.fmod ns.length).toNat 0) + 17 * k.fdiv ns.length
theorem cell_nil {ns : List Int} {k : Int} (h : ns.length = 0) : cell ns k = 7919 * k * k + 104729 * k + 31 := by unfold cell; rw [if_pos h]
theorem cell_cons {ns : List Int} {k : Int} (h : ns.length ≠ 0) : cell ns k = (if ns.getD (k.fmod ns.length).toNat 0 < 0 then - ns.getD (k.fmod ns.length).toNat 0 else ns.getD (k.fmod ns.length).toNat 0) + 17 * k.fdiv ns.length := by unfold cell; rw [if_neg h]
end Mine
end
noncomputable section
open PySem
namespace Mine
/-- n digits of q in base B, the least first -/
noncomputable def digs (B : Int) : Nat → Int → List Int
  | 0, _ => []
  | n + 1, q => (q % B) :: digs B n (q / B)
theorem digs_length (B : Int) : ∀ n q, (digs B n q).length = n
  | 0, _ => rfl
  | n + 1, q => by rw [digs, List.length_cons, digs_length]
theorem digs_step {B q r : Int} {n : Nat} (hB : 2 ≤ B) (h0 : 0 ≤ r) (h : r < B) : r :: digs B n q = digs B (n + 1) (q * B + r) := by
  rw [digs]
  have e1 : (q * B + r) % B = r := by rw [Int.add_comm, Int.add_mul_emod_self_right, Int.emod_eq_of_lt h0 h]
  have e2 : (q * B + r) / B = q := by rw [Int.add_comm, Int.add_mul_ediv_right _ _ (by omega), Int.ediv_eq_zero_of_lt h0 h, Int.zero_add]
  rw [e1, e2]
theorem digs_zero (B : Int) (n : Nat) : digs B n 0 = List.replicate n 0 := by
  induction n with
  | zero => rfl
  | succ n ih => rw [digs, Int.zero_emod, Int.zero_ediv, ih]; rfl
theorem strip0_rep (n : Nat) (l : List Int) : strip0 (l ++ List.replicate n 0) = strip0 l := by
  induction n with
  | zero => simp
  | succ n ih => rw [List.replicate_succ', ← List.append_assoc, strip0_zero, ih]
theorem strip0_cons_ne {v : Int} {l : List Int} (h : strip0 l ≠ []) : strip0 (v :: l) = v :: strip0 l := by
  unfold strip0 at *
  rw [List.reverse_cons, List.dropWhile_append]
  have : (List.dropWhile (fun v => v == 0) l.reverse).isEmpty = false := by
    cases hd : List.dropWhile (fun v => v == 0) l.reverse with
    | nil => rw [hd] at h; simp at h
    | cons _ _ => rfl
  rw [this]
  simp
theorem strip0_cons_nil {v : Int} {l : List Int} (h : strip0 l = []) (hv : v ≠ 0) : strip0 (v :: l) = [v] := by
  unfold strip0 at *
  rw [List.reverse_cons, List.dropWhile_append]
  have : (List.dropWhile (fun v => v == 0) l.reverse) = [] := by simpa using h
  rw [this]
  simp [hv]
theorem strip0_digs {w : Int} (hw : 1 ≤ w) : ∀ (n : Nat) (q : Int), 0 ≤ q → q < (2 ^ w.toNat) ^ n → strip0 (digs (2 ^ w.toNat) n q) = lm w q
  | 0, q, h0, h1 => by
    have : q = 0 := by rw [Int.pow_zero] at h1; omega
    subst this
    rw [lm_zero]; rfl
  | n + 1, q, h0, h1 => by
    have hB := two_le_powI hw
    have ih := strip0_digs hw n (q / 2 ^ w.toNat) (Int.ediv_nonneg h0 (by omega)) (Int.ediv_lt_of_lt_mul (by omega) (by rw [← Int.pow_succ]; exact h1))
    by_cases hq : q = 0
    · subst hq
      rw [digs_zero, lm_zero]
      have := strip0_rep (n + 1) []
      rw [List.nil_append] at this
      exact this
    · rw [digs, lm_cons hw (by omega), ← ih]
      by_cases hz : strip0 (digs (2 ^ w.toNat) n (q / 2 ^ w.toNat)) = []
      · rw [hz]
        refine strip0_cons_nil hz ?_
        rw [hz] at ih
        have hq0 : q / 2 ^ w.toNat ≤ 0 := by
          by_cases hp : 0 < q / 2 ^ w.toNat
          · exact absurd ih.symm (lm_ne hw hp)
          · omega
        have hs := split_mod q (2 ^ w.toNat)
        have hn := Int.ediv_nonneg h0 (show (0 : Int) ≤ 2 ^ w.toNat by omega)
        rw [show q / 2 ^ w.toNat = 0 by omega, Int.mul_zero, Int.zero_add] at hs
        omega
      · exact strip0_cons_ne hz
theorem rep_set (j : Nat) (q : Int) (l : List Int) : (List.replicate (j + 1) 0 ++ l).set j q = List.replicate j 0 ++ (q :: l) := by
  rw [List.replicate_succ', List.append_assoc, List.singleton_append]
  rw [List.set_append_right _ _ (by simp)]
  simp
/-- one step of the long division -/
theorem div_step {X B a k : Int} (hB : 2 ≤ B) (hk : 0 < k) (ha : 0 ≤ a) (haB : a < B) :
    0 ≤ (X % k * B + a) / k ∧ (X % k * B + a) / k < B ∧ (X * B + a) / k = X / k * B + (X % k * B + a) / k ∧ (X * B + a) % k = (X % k * B + a) % k := by
  have h0 := Int.emod_nonneg X (show k ≠ 0 by omega)
  have h1 := Int.emod_lt_of_pos X hk
  have hm : 0 ≤ X % k * B := Int.mul_nonneg h0 (by omega)
  have e : X * B + a = (X % k * B + a) + k * (X / k * B) := by
    have hs := split_mod X k
    have h2 : X * B = (k * (X / k) + X % k) * B := by rw [← hs]
    rw [Int.add_mul, Int.mul_assoc] at h2
    omega
  refine ⟨Int.ediv_nonneg (by omega) (by omega), Int.ediv_lt_of_lt_mul hk ?_, ?_, ?_⟩
  · have h3 : X % k * B ≤ (k - 1) * B := Int.mul_le_mul_of_nonneg_right (by omega) (by omega)
    have h4 : (k - 1) * B = B * k - B := by rw [Int.sub_mul, Int.one_mul, Int.mul_comm]
    omega
  · rw [e, Int.add_mul_ediv_left _ _ (by omega), Int.add_comm]
  · rw [e, Int.add_mul_emod_self_left]
theorem bitNot_neg {x : Int} (hx : 0 ≤ x) : Builtin.bitNot (Builtin.bitNot x) = x := by simp only [Builtin.bitNot]; omega
/-- or of a shifted number and what lies below it -/
theorem bitOr_shift {r a : Int} {k : Nat} (hr : 0 ≤ r) (ha : 0 ≤ a) (haB : a < 2 ^ k) : Builtin.bitOr (r * 2 ^ k) a = r * 2 ^ k + a := by
  have hp := two_pow_pos k
  have hrk : 0 ≤ r * 2 ^ k := Int.mul_nonneg hr (by omega)
  unfold Builtin.bitOr
  have hn : ∀ y : Int, 0 ≤ y → ¬ (0 ≤ Builtin.bitNot y) := fun y hy => by simp only [Builtin.bitNot]; omega
  unfold Builtin.bitAnd
  rw [decide_eq_false (hn _ hrk), decide_eq_false (hn _ ha)]
  dsimp only
  rw [bitNot_neg hrk, bitNot_neg ha]
  obtain ⟨rn, rfl⟩ := Int.eq_ofNat_of_zero_le hr
  obtain ⟨an, rfl⟩ := Int.eq_ofNat_of_zero_le ha
  have e1 : ((rn : Int) * 2 ^ k).toNat = 2 ^ k * rn := by
    rw [← two_pow_cast, ← Int.natCast_mul, Int.toNat_natCast, Nat.mul_comm]
  have h2 : an < 2 ^ k := by rw [← two_pow_cast] at haB; omega
  rw [e1, Int.toNat_natCast, ← Nat.two_pow_add_eq_or_of_lt h2, bitNot_neg (Int.natCast_nonneg _), Int.natCast_add, Int.natCast_mul, two_pow_cast, Int.mul_comm]
theorem emod_le_self {x y : Int} (hx : 0 ≤ x) (hy : 0 < y) : x % y ≤ x := by
  have h := Int.mul_ediv_add_emod x y
  have h2 := Int.mul_nonneg (Int.le_of_lt hy) (Int.ediv_nonneg hx (Int.le_of_lt hy))
  omega
theorem dig_len_pow {B : Nat} (hB : 2 ≤ B) : ∀ (k n : Nat), n < 2 ^ k → (dig B n).length ≤ k
  | 0, n, h => by
    rw [show n = 0 by simpa using h, dig_zero]; exact Nat.le_refl _
  | k + 1, n, h => by
    by_cases hn : n = 0
    · rw [hn, dig_zero]; exact Nat.zero_le _
    · rw [dig_pos hB hn, List.length_cons]
      have h2 : n / B < 2 ^ k := by
        have h3 : n / B ≤ n / 2 := Nat.div_le_div_left hB (by omega)
        have h4 : n / 2 < 2 ^ k := Nat.div_lt_of_lt_mul (by rw [Nat.pow_succ] at h; omega)
        omega
      have := dig_len_pow hB k (n / B) h2
      omega
theorem lm_len_pow {w x : Int} {k : Nat} (hw : 1 ≤ w) (h : x < 2 ^ k) : (lm w x).length ≤ k := by
  refine dig_len_pow (two_le_pow (by omega)) k _ ?_
  rw [← two_pow_cast] at h
  have := Nat.two_pow_pos k
  omega
theorem lm_len_base {w b : Int} (hw : 1 ≤ w) (_hb : 0 ≤ b) (hb9 : b ≤ 70) : (lm w b).length < 1000 := by
  have := lm_len_pow (k := 7) hw (show b < 2 ^ 7 by omega)
  omega
theorem mul_fits_lm {w x y : Int} (hw : 1 ≤ w) (hw9 : w ≤ 9) (hx : 0 ≤ x) (hy : 0 ≤ y) (hna : (lm w x).length < 1048576) (hnb : (lm w y).length < 1048576) : IntMulOk x y := by
  have h1 := bits_small hw hw9 hx (Int.le_refl x) hna
  have h2 := bits_small hw hw9 hy (Int.le_refl y) hnb
  unfold IntMulOk Builtin.Int.intTooBig
  rw [bitsLine_eq]
  intro h
  simp only [Bool.and_eq_true, decide_eq_true_eq] at h
  omega
theorem no_pylong {w x y : Int} (hw : 1 ≤ w) (hw9 : w ≤ 9) (hy : 0 < y) (hnb : (lm w y).length < 1000) : Builtin.divisionGoesByPylong x y = false := by
  refine PyProof.noPylong_of_log2 ?_
  have h := bits_lm hw (Int.le_of_lt hy) (Int.le_refl y)
  have h2 : w.toNat * (lm w y).length ≤ 9 * 999 := Nat.mul_le_mul (by omega) (by omega)
  unfold Builtin.Int.intBits at h
  have : (y == 0) = false := by simpa using (show y ≠ 0 by omega)
  rw [this] at h
  simp only [Bool.false_eq_true, if_false] at h
  omega
end Mine
end
noncomputable section
open PySem
namespace Mine
theorem worth_nonneg {b : Int} (hb : 0 ≤ b) : ∀ (ds : List Int) (i : Nat), (∀ d ∈ ds, 0 ≤ d ∧ d < b) → 0 ≤ worth b (ds.take i)
  | _, 0, _ => by rw [List.take_zero]; exact Int.le_refl _
  | ds, i + 1, h => by
    have ih := worth_nonneg hb ds i h
    cases hi : ds[i]? with
    | none =>
      rw [List.take_add_one, hi]
      simpa using ih
    | some d =>
      rw [worth_take hi]
      have := (h d (List.mem_of_getElem? hi)).1
      have := Int.mul_nonneg ih hb
      omega
theorem worth_mono1 {b : Int} (hb : 1 ≤ b) {ds : List Int} {i : Nat} (h : ∀ d ∈ ds, 0 ≤ d ∧ d < b) : worth b (ds.take i) ≤ worth b (ds.take (i + 1)) := by
  have ih := worth_nonneg (b := b) (by omega) ds i h
  cases hi : ds[i]? with
  | none =>
    rw [List.take_add_one, hi]
    simp
  | some d =>
    rw [worth_take hi]
    have := (h d (List.mem_of_getElem? hi)).1
    have h2 : worth b (ds.take i) * 1 ≤ worth b (ds.take i) * b := Int.mul_le_mul_of_nonneg_left hb ih
    omega
theorem worth_mono {b : Int} (hb : 1 ≤ b) {ds : List Int} {i : Nat} (h : ∀ d ∈ ds, 0 ≤ d ∧ d < b) : worth b (ds.take i) ≤ worth b ds := by
  have key : ∀ k, worth b (ds.take i) ≤ worth b (ds.take (i + k)) := by
    intro k
    induction k with
    | zero => exact Int.le_refl _
    | succ k ih => exact Int.le_trans ih (worth_mono1 hb h)
  by_cases hi : i ≤ ds.length
  · have := key (ds.length - i)
    rw [show i + (ds.length - i) = ds.length by omega, List.take_length] at this
    exact this
  · rw [List.take_of_length_le (by omega)]
    exact Int.le_refl _
end Mine
end
noncomputable section
open PySem PySem.W PyProof.Rows PySem.Calls
namespace Mine
/-- rows of limbs by reference, written out in a ledger's part -/
inductive PowIn (w : Int) (inner : List (Addr × Obj)) : List Value → List Int → Prop
  | nil : PowIn w inner [] []
  | cons {p : Addr} {its : List Value} {n : Nat} {X : Int} {vs : List Value} {Xs : List Int} : (p, PySem.W.listOf its.toArray n) ∈ inner → IntsAre its (lm w X) → PowIn w inner vs Xs → PowIn w inner (.ref p :: vs) (X :: Xs)
/-- the same, standing in a heap -/
inductive PowsAt (w : Int) (h : Heap) : List Value → List Int → Prop
  | nil : PowsAt w h [] []
  | cons {p : Addr} {its : List Value} {X : Int} {vs : List Value} {Xs : List Int} : h.IsList p its.toArray → IntsAre its (lm w X) → PowsAt w h vs Xs → PowsAt w h (.ref p :: vs) (X :: Xs)
variable {w : Int} {inner inner' : List (Addr × Obj)} {vs : List Value} {Xs : List Int} {h h' h₀ : Heap} {L : Addr} {news : List (Addr × Obj)}
theorem PowIn.mono (P : PowIn w inner vs Xs) (hs : ∀ p ∈ inner, p ∈ inner') : PowIn w inner' vs Xs := by
  induction P with
  | nil => exact .nil
  | cons hm hi _ ih => exact .cons (hs _ hm) hi ih
theorem PowIn.snoc {p : Addr} {its : List Value} {n : Nat} {X : Int} (P : PowIn w inner vs Xs) (hm : (p, PySem.W.listOf its.toArray n) ∈ inner) (hi : IntsAre its (lm w X)) : PowIn w inner (vs ++ [.ref p]) (Xs ++ [X]) := by
  induction P with
  | nil => exact .cons hm hi .nil
  | cons hm' hi' _ ih => exact .cons hm' hi' ih
theorem PowIn.at (P : PowIn w inner vs Xs) (N : News h₀ L h news) (hs : ∀ p ∈ inner, p ∈ news) : PowsAt w h vs Xs := by
  induction P with
  | nil => exact .nil
  | cons hm hi _ ih => exact .cons ⟨_, (N _ (hs _ hm)).1, rfl, _, rfl⟩ hi ih
theorem PowIn.length (P : PowIn w inner vs Xs) : vs.length = Xs.length := by
  induction P with
  | nil => rfl
  | cons _ _ _ ih => simp [ih]
theorem PowsAt.keeps (P : PowsAt w h vs Xs) (hk : ∀ b o, h.get? b = some o → h'.get? b = some o) : PowsAt w h' vs Xs := by
  induction P with
  | nil => exact .nil
  | cons hl hi _ ih => exact .cons (hl.at fun o e => hk _ _ e) hi ih
theorem PowsAt.length (P : PowsAt w h vs Xs) : vs.length = Xs.length := by
  induction P with
  | nil => rfl
  | cons _ _ _ ih => simp [ih]
theorem PowsAt.take (P : PowsAt w h vs Xs) : ∀ n, PowsAt w h (vs.take n) (Xs.take n) := by
  induction P with
  | nil => intro n; simp; exact .nil
  | cons hl hi _ ih =>
    intro n
    cases n with
    | zero => exact .nil
    | succ n => exact .cons hl hi (ih n)
theorem PowsAt.get (P : PowsAt w h vs Xs) : ∀ {i : Nat} {X : Int}, Xs[i]? = some X → ∃ p its, vs[i]? = some (.ref p) ∧ h.IsList p its.toArray ∧ IntsAre its (lm w X) := by
  induction P with
  | nil => intro i X e; simp at e
  | cons hl hi _ ih =>
    intro i X e
    cases i with
    | zero => simp at e; subst e; exact ⟨_, _, rfl, hl, hi⟩
    | succ i => exact ih (i := i) (by simpa using e)
/-- the base, squared over and over -/
def pows (b : Int) (k : Nat) : List Int := (List.range k).map fun i => b ^ (2 ^ i)
theorem pows_length (b : Int) (k : Nat) : (pows b k).length = k := by simp [pows]
theorem pows_succ (b : Int) (k : Nat) : pows b (k + 1) = pows b k ++ [b ^ (2 ^ k)] := by simp [pows, List.range_succ]
theorem pows_get {b : Int} {k i : Nat} (h : i < k) : (pows b k)[i]? = some (b ^ (2 ^ i)) := by simp [pows, h]
theorem pows_take (b : Int) (k : Nat) : (pows b (k + 1)).take k = pows b k := by
  rw [pows_succ, List.take_append_of_le_length (by rw [pows_length]; exact Nat.le_refl _), List.take_of_length_le (by rw [pows_length]; exact Nat.le_refl _)]
theorem pow_sq (b : Int) (k : Nat) : b ^ (2 ^ k) * b ^ (2 ^ k) = b ^ (2 ^ (k + 1)) := by
  rw [← Int.pow_add, Nat.pow_succ, Nat.mul_two]
def NewPows (H h' : Heap) (w : Int) (Xs : List Int) (v : Value) : Prop := ∃ l vs n inner, v = .ref l ∧ H.get? l = none ∧ h'.get? l = some (PySem.W.listOf (List.toArray vs) n) ∧ (∀ p ∈ inner, H.get? p.1 = none ∧ h'.get? p.1 = some p.2) ∧ PowIn w inner vs Xs
theorem newPows_of {H : Heap} {l : Addr} {n : Nat} (N : News H L h news) (hm : (l, PySem.W.listOf vs.toArray n) ∈ news) (hs : ∀ p ∈ inner, p ∈ news) (P : PowIn w inner vs Xs) : NewPows H h w Xs (.ref l) :=
  ⟨l, vs, n, inner, rfl, (N _ hm).2.2, (N _ hm).1, fun p hp => ⟨(N p (hs p hp)).2.2, (N p (hs p hp)).1⟩, P⟩
theorem lm_len_of_lt {w x : Int} {k : Nat} (hw : 1 ≤ w) (hx : 0 ≤ x) (h : x < (2 ^ w.toNat) ^ k) : (lm w x).length ≤ k := by
  by_cases hk : (lm w x).length ≤ k
  · exact hk
  · have h1 := (lm_item (w := w) hw hx (j := k) (by omega)).2.2
    rw [Int.ediv_eq_zero_of_lt hx h] at h1
    omega
theorem lm_len_mul {w x y : Int} (hw : 1 ≤ w) (hx : 0 ≤ x) (hy : 0 ≤ y) : (lm w (x * y)).length ≤ (lm w x).length + (lm w y).length := by
  have hB := two_le_powI hw
  refine lm_len_of_lt hw (Int.mul_nonneg hx hy) ?_
  rw [Int.pow_add]
  have h1 := lm_lt (w := w) hw hx
  have h2 := lm_lt (w := w) hw hy
  have hq : (0 : Int) < (2 ^ w.toNat) ^ (lm w y).length := Int.pow_pos (by omega)
  have h3 := Int.mul_le_mul_of_nonneg_left (Int.le_of_lt h2) hx
  have h4 := Int.mul_lt_mul_of_pos_right h1 hq
  omega
theorem pow_le_left {a b : Int} (ha : 0 ≤ a) (h : a ≤ b) : ∀ n : Nat, a ^ n ≤ b ^ n
  | 0 => by rw [Int.pow_zero, Int.pow_zero]; exact Int.le_refl _
  | n + 1 => by
    rw [Int.pow_succ, Int.pow_succ]
    exact Int.mul_le_mul (pow_le_left ha h n) h ha (Int.pow_nonneg (by omega))
theorem pow_le_right {b : Int} (hb : 1 ≤ b) {m n : Nat} (h : m ≤ n) : b ^ m ≤ b ^ n := by
  obtain ⟨k, rfl⟩ : ∃ k, n = m + k := ⟨n - m, by omega⟩
  rw [Int.pow_add]
  have h1 : (1 : Int) ≤ b ^ k := Int.pow_pos (by omega)
  have h2 : (0 : Int) ≤ b ^ m := Int.pow_nonneg (by omega)
  have := Int.mul_le_mul_of_nonneg_left h1 h2
  omega
theorem pow_big {b x : Int} {j : Nat} (hb : 2 ≤ b) (h : b ^ (2 ^ j) ≤ x) (hx : x < 2 ^ 9000) : j < 14 := by
  by_cases hj : j < 14
  · exact hj
  · exfalso
    have h1 : (2 : Int) ^ (2 ^ j) ≤ b ^ (2 ^ j) := pow_le_left (by omega) hb _
    have h2 : (2 : Nat) ^ 14 ≤ 2 ^ j := Nat.pow_le_pow_right (by omega) (by omega)
    have h3 : (2 : Nat) ^ 9000 ≤ 2 ^ (2 ^ j) := Nat.pow_le_pow_right (by omega) (by omega)
    have h4 : ((2 ^ 9000 : Nat) : Int) ≤ ((2 ^ (2 ^ j) : Nat) : Int) := Int.ofNat_le.mpr h3
    rw [two_pow_cast, two_pow_cast] at h4
    omega
theorem lt_9000 {w x : Int} (hw : 1 ≤ w) (hw9 : w ≤ 9) (hx : 0 ≤ x) (hl : (lm w x).length < 1000) : x < 2 ^ 9000 := by
  have h := lm_lt (w := w) hw hx
  rw [← Int.pow_mul] at h
  have h2 : w.toNat * (lm w x).length ≤ 9000 := by
    have : w.toNat * (lm w x).length ≤ 9 * 1000 := Nat.mul_le_mul (by omega) (by omega)
    omega
  have h3 : (2 : Nat) ^ (w.toNat * (lm w x).length) ≤ 2 ^ 9000 := Nat.pow_le_pow_right (by omega) h2
  have h4 : ((2 ^ (w.toNat * (lm w x).length) : Nat) : Int) ≤ ((2 ^ 9000 : Nat) : Int) := Int.ofNat_le.mpr h3
  rw [two_pow_cast, two_pow_cast] at h4
  omega
theorem cmpI_le {x y : Int} (h : cmpI x y ≤ 0) : x ≤ y := by
  unfold cmpI at h
  split at h
  · omega
  · split at h
    · omega
    · omega
theorem cmpI_lt {x y : Int} (h : cmpI x y < 0) : x < y := by
  unfold cmpI at h
  split at h
  · omega
  · split at h <;> omega
theorem cmpI_ge {x y : Int} (h : ¬ cmpI x y < 0) : y ≤ x := by
  unfold cmpI at h
  split at h <;> omega
theorem pow_grows {X : Int} (h : 2 ≤ X) : X < X * X := by
  have : X * 2 ≤ X * X := Int.mul_le_mul_of_nonneg_left h (by omega)
  omega
theorem pow_ge2 {b : Int} (hb : 2 ≤ b) (k : Nat) : 2 ≤ b ^ (2 ^ k) := by
  have h1 : b ^ 1 ≤ b ^ (2 ^ k) := pow_le_right (by omega) (Nat.one_le_two_pow)
  rw [Int.pow_one] at h1
  omega
end Mine
end
noncomputable section
open PySem
namespace Mine
theorem dig_len_mono {B : Nat} (hB : 2 ≤ B) : ∀ {x y : Nat}, x ≤ y → (dig B x).length ≤ (dig B y).length := by
  intro x
  induction x using Nat.strongRecOn with
  | _ x ih =>
    intro y h
    by_cases hx : x = 0
    · rw [hx, dig_zero]; exact Nat.zero_le _
    · rw [dig_pos hB hx, dig_pos (n := y) hB (by omega), List.length_cons, List.length_cons]
      have := ih (x / B) (Nat.div_lt_self (by omega) (by omega)) (y := y / B) (Nat.div_le_div_right h)
      omega
/-- the digits of n, at least so many, put together from two parts -/
theorem dig_split {B : Nat} (hB : 2 ≤ B) : ∀ (m n : Nat), B ^ m ≤ n → dig B n = dig B (n % B ^ m) ++ List.replicate (m - (dig B (n % B ^ m)).length) 0 ++ dig B (n / B ^ m) ∧ (dig B (n % B ^ m)).length ≤ m
  | 0, n, h => by
    rw [Nat.pow_zero, Nat.mod_one, Nat.div_one, dig_zero]
    exact ⟨by simp, Nat.le_refl _⟩
  | m + 1, n, h => by
    have hBm : 0 < B ^ m := Nat.pow_pos (by omega)
    have hn : n ≠ 0 := by
      intro e
      rw [e] at h
      have : 0 < B ^ (m + 1) := Nat.pow_pos (by omega)
      omega
    have hdiv : B ^ m ≤ n / B := by
      rw [Nat.le_div_iff_mul_le (by omega), ← Nat.pow_succ]
      exact h
    obtain ⟨ih, ihl⟩ := dig_split hB m (n / B) hdiv
    have e1 : n / B / B ^ m = n / B ^ (m + 1) := by rw [Nat.div_div_eq_div_mul, Nat.pow_succ, Nat.mul_comm]
    have e2 : n % B ^ (m + 1) / B = n / B % B ^ m := by rw [Nat.pow_succ, Nat.mul_comm, Nat.mod_mul_right_div_self]
    have e3 : n % B ^ (m + 1) % B = n % B := by rw [Nat.pow_succ, Nat.mod_mul_left_mod]
    rw [dig_pos hB hn, ih, e1]
    by_cases hr : n % B ^ (m + 1) = 0
    · rw [hr, Nat.zero_mod] at e3
      rw [hr, Nat.zero_div] at e2
      rw [← e2, hr, dig_zero, ← e3]
      refine ⟨?_, by simp⟩
      simp [List.replicate_succ]
    · rw [dig_pos hB hr, e2, e3]
      refine ⟨?_, by rw [List.length_cons]; omega⟩
      simp only [List.length_cons, List.cons_append, Nat.add_sub_add_right]
/-- the digits of x by a power of the base that is no greater -/
theorem dig_join {b x : Int} {k : Nat} (hb : 2 ≤ b) (hx : 0 ≤ x) (h : b ^ (2 ^ k) ≤ x) :
    (dig b.toNat (x / b ^ (2 ^ k)).toNat).reverse ++ (List.replicate (2 ^ k - (dig b.toNat (x % b ^ (2 ^ k)).toNat).reverse.length) 0 ++ (dig b.toNat (x % b ^ (2 ^ k)).toNat).reverse) = (dig b.toNat x.toNat).reverse ∧ (dig b.toNat (x % b ^ (2 ^ k)).toNat).length ≤ 2 ^ k := by
  have hp : (0 : Int) ≤ b ^ (2 ^ k) := Int.pow_nonneg (by omega)
  have e : (b ^ (2 ^ k)).toNat = b.toNat ^ (2 ^ k) := by
    obtain ⟨m, rfl⟩ := Int.eq_ofNat_of_zero_le (show 0 ≤ b by omega)
    rw [← Int.natCast_pow, Int.toNat_natCast, Int.toNat_natCast]
  have hle : b.toNat ^ (2 ^ k) ≤ x.toNat := by rw [← e]; omega
  obtain ⟨h1, h2⟩ := dig_split (B := b.toNat) (by omega) (2 ^ k) x.toNat hle
  have e1 : (x / b ^ (2 ^ k)).toNat = x.toNat / b.toNat ^ (2 ^ k) := by rw [toNat_div hx hp, e]
  have e2 : (x % b ^ (2 ^ k)).toNat = x.toNat % b.toNat ^ (2 ^ k) := by rw [toNat_mod hx hp, e, Int.toNat_natCast]
  rw [e1, e2, h1]
  refine ⟨?_, h2⟩
  simp only [List.reverse_append, List.length_reverse, List.reverse_replicate, List.append_assoc]
end Mine
end
noncomputable section
open PySem
namespace Mine
theorem worth_lt {b : Int} (hb : 2 ≤ b) {ds : List Int} (h : ∀ d ∈ ds, 0 ≤ d ∧ d < b) : ∀ i, i ≤ ds.length → worth b (ds.take i) < b ^ i
  | 0, _ => by rw [List.take_zero, worth_nil, Int.pow_zero]; decide
  | i + 1, hi => by
    have ih := worth_lt hb h i (by omega)
    have hi' : i < ds.length := by omega
    have hd := h ds[i] (List.getElem_mem hi')
    rw [worth_take (List.getElem?_eq_getElem hi'), Int.pow_succ]
    have h1 : (worth b (ds.take i) + 1) * b ≤ b ^ i * b := Int.mul_le_mul_of_nonneg_right (by omega) (by omega)
    rw [Int.add_mul, Int.one_mul] at h1
    omega
theorem worth_lt_all {b : Int} (hb : 2 ≤ b) {ds : List Int} (h : ∀ d ∈ ds, 0 ≤ d ∧ d < b) : worth b ds < b ^ ds.length := by
  have := worth_lt hb h ds.length (Nat.le_refl _)
  rwa [List.take_length] at this
theorem worth_nn {b : Int} (hb : 0 ≤ b) {ds : List Int} (h : ∀ d ∈ ds, 0 ≤ d ∧ d < b) : 0 ≤ worth b ds := by
  have := worth_nonneg hb ds ds.length h
  rwa [List.take_length] at this
theorem foldl_worth (b : Int) : ∀ (ds : List Int) (a : Int), ds.foldl (fun a d => a * b + d) a = a * b ^ ds.length + worth b ds
  | [], a => by simp [worth]
  | d :: ds, a => by
    have e : worth b (d :: ds) = (0 * b + d) * b ^ ds.length + worth b ds := foldl_worth b ds (0 * b + d)
    rw [List.foldl_cons, foldl_worth b ds, e, List.length_cons, Int.pow_succ, Int.zero_mul, Int.zero_add, Int.add_mul, Int.mul_assoc, Int.mul_comm b, Int.add_assoc]
theorem worth_append (b : Int) (xs ys : List Int) : worth b (xs ++ ys) = worth b xs * b ^ ys.length + worth b ys := by
  unfold worth
  rw [List.foldl_append]
  exact foldl_worth b ys _
theorem pow_len {w b : Int} {n : Nat} (hw : 1 ≤ w) (hb : 0 ≤ b) (hb9 : b ≤ 70) (hn : n < 1000) {x : Int} (hx : x ≤ b ^ n) : (lm w x).length ≤ 7000 := by
  refine lm_len_pow (k := 7000) hw ?_
  have h1 : b ^ n ≤ 128 ^ n := pow_le_left hb (by omega) n
  have h2 : (128 : Int) ^ n = 2 ^ (7 * n) := by rw [Int.pow_mul]; rfl
  have h3 : (2 : Int) ^ (7 * n) < 2 ^ 7000 := by
    have : (2 : Nat) ^ (7 * n) < 2 ^ 7000 := Nat.pow_lt_pow_right (by omega) (by omega)
    have h4 : ((2 ^ (7 * n) : Nat) : Int) < ((2 ^ 7000 : Nat) : Int) := Int.ofNat_lt.mpr this
    rwa [two_pow_cast, two_pow_cast] at h4
  omega
end Mine
end
noncomputable section
open PySem PySem.W PyProof.Rows PySem.Calls
namespace Mine
/-- a list of references: a mark for the walk's own lines -/
structure RL (vs : List Value) : Prop where
  mk ::
section
variable {prog : Program} {w : World} {A : Around} {E : Value → Shared → Prop} {s : Shared} {h₀ : Heap} {L l : Addr} {m : Str → Option Value} {news : List (Addr × Obj)} {value slice : PySem.Expr} {vs : List Value} {Q : Value → Shared → Prop}
theorem len_rl (hl : s.heap.IsList l vs.toArray) (_ : RL vs) (hfit : vs.length < 1048576) (h : Q (.int (vs.length : Nat) (s.toks + 1)) { s with toks := s.toks + 1 + 1 }) : wpAny (model prog w) A (call (.builtin "len") [.ref l]) Q E s := by
  refine Calls.call_len_list hl (by rw [List.size_toArray]; omega) ?_
  rw [List.size_toArray]
  exact h
theorem item_rl {k : Int} {u : Tok} {v : Value} (hl : s.heap.IsList l vs.toArray) (_ : RL vs) (h0 : 0 ≤ k) (hhi : k < 2 ^ 63) (hx : vs[k.toNat]? = some v) (h : Q v s)
    (hs : subscripted slice false (.ref l) (.int k u) = operate [.ref l, .int k u] (getItem (.ref l) (.int k u))) (hg : ∀ r, letTemporaryGo value (.ref l) r = pure ()) :
    wpAny (model prog w) A (subscriptTail value slice (.ref l) (.int k u)) Q E s :=
  subscriptTail_builtin hl.typeIs slot_list_getitem.lookup (wpAny_getItem_list hl h0 hhi (by simpa using hx) h) hs hg
theorem item_rl_neg {k : Int} {u : Tok} {v : Value} (hl : s.heap.IsList l vs.toArray) (_ : RL vs) (h0 : k < 0) (h1 : -(vs.length : Int) ≤ k) (hfit : -(2 ^ 63) ≤ k) (hx : vs[(k + vs.length).toNat]? = some v) (h : Q v s)
    (hs : subscripted slice false (.ref l) (.int k u) = operate [.ref l, .int k u] (getItem (.ref l) (.int k u))) (hg : ∀ r, letTemporaryGo value (.ref l) r = pure ()) :
    wpAny (model prog w) A (subscriptTail value slice (.ref l) (.int k u)) Q E s :=
  subscriptTail_builtin hl.typeIs slot_list_getitem.lookup (wpAny_getItem_list_neg hl h0 (by rw [List.size_toArray]; exact h1) hfit (by rw [List.size_toArray]; simpa using hx) h) hs hg
theorem pick_neg {y : Int} (h : y < 0) : slicePick vs.toArray none (some y) none = (vs.take (vs.length - (-y).toNat)).toArray := by
  have e : sliceBounds none (some y) none vs.toArray.size = (((0 : Nat) : Int), ((vs.toArray.size - (-y).toNat : Nat) : Int), 1) := by
    simp only [sliceBounds, Option.getD_none, show (1 : Int) > 0 by decide, if_true, if_pos h]
    congr 1
    congr 1
    exact Sl.pk h
  rw [kmk_pick_nat _ e, List.drop_zero, Nat.sub_zero, List.size_toArray]
theorem slice_rl {vl vu : Value} {y : Int} (F : Fr h₀ L s.heap m) (N : News h₀ L s.heap news) (hl : s.heap.IsList l vs.toArray) (_ : RL vs) (pl : IsPart vl none) (pu : IsPart vu (some y)) (hy : y < 0) (hfit : vs.length < 1048576)
    (h : ∀ D h', Fr h₀ L h' m → News h₀ L h' ((D, PySem.W.listOf (vs.take (vs.length - (-y).toNat)).toArray 0) :: news) → (∀ p ∈ news, p.1 < D) → RL (vs.take (vs.length - (-y).toNat)) → Q (.ref D) { s with heap := h' })
    (hs : subscripted slice false (.ref l) (.ref s.heap.objs.size) = operate [.ref s.heap.objs.size, .ref l] (getItem (.ref l) (.ref s.heap.objs.size))) (ht : ∀ r, letTemporaryGo value (.ref l) r = pure ()) :
    wpAny (model prog w) A (subscriptTail value slice (.ref l) (.ref s.heap.objs.size)) Q E { s with heap := s.heap.push { cls := .type "slice", data := .fields #[vl, vu, .none] } } := by
  refine kmk_slice F N hl pl pu (fun D h' F' N' l1 => h D h' F' ?_ l1 ⟨⟩) hs ht (by rw [List.size_toArray, sizeLine_eq]; omega)
  rw [pick_neg hy] at N'
  exact N'
end
end Mine
end
noncomputable section
open PySem PySem.W PyProof.Rows
open Builtin.Int (intBits)
namespace Mine
theorem small_bits {x : Int} {n : Nat} (h : x.natAbs < 2 ^ n) : intBits x ≤ n := PySem.intBits_le_iff.mpr h
theorem item_bits {ns : List Int} (h : PyData.layable0 (.list (ns.map .int)) = true) (i : Nat) : intBits (ns.getD i 0) ≤ 1048576 := PySem.W.kbm_getD h (by decide)
theorem cell_nn {ns : List Int} {k : Int} (hk : 0 ≤ k) : 0 ≤ cell ns k := by
  unfold cell
  split
  · have := Int.mul_nonneg (Int.mul_nonneg (show (0 : Int) ≤ 7919 by decide) hk) hk
    omega
  · have : 0 ≤ k.fdiv ns.length := by
      rw [Int.fdiv_eq_ediv_of_nonneg _ (Int.natCast_nonneg _)]
      exact Int.ediv_nonneg hk (Int.natCast_nonneg _)
    split <;> omega
theorem cell_bits {ns : List Int} {k : Int} (h : PyData.layable0 (.list (ns.map .int)) = true) (hk : 0 ≤ k) (hk9 : k < 100) : intBits (cell ns k) ≤ 1048600 := by
  unfold cell
  split
  · refine Nat.le_trans (small_bits (n := 40) ?_) (by decide)
    have h1 : 7919 * k * k ≤ 7919 * 100 * 100 := Int.mul_le_mul (by omega) (by omega) hk (by omega)
    have h2 := Int.mul_nonneg (Int.mul_nonneg (show (0 : Int) ≤ 7919 by decide) hk) hk
    omega
  · have hq : 0 ≤ k.fdiv ns.length ∧ k.fdiv ns.length ≤ k := by
      rw [Int.fdiv_eq_ediv_of_nonneg _ (Int.natCast_nonneg _)]
      exact ⟨Int.ediv_nonneg hk (Int.natCast_nonneg _), Int.ediv_le_self _ hk⟩
    have h1 := PySem.intBits_ite_le (c := ns.getD (k.fmod ns.length).toNat 0 < 0) (PySem.intBits_neg_le (item_bits h (k.fmod ns.length).toNat)) (item_bits h (k.fmod ns.length).toNat)
    have h2 : intBits (17 * k.fdiv ns.length) ≤ 20 := small_bits (by omega)
    have h3 := PySem.intBits_add_le h1 h2
    omega
theorem one_shift {w : Int} (hw : 2 ≤ w) (hw9 : w ≤ 9) : (1 : Int) * 2 ^ (w * 7).toNat = 2 ^ (w.toNat * 7) := by
  rw [Int.one_mul]; congr 1; omega
/-- the number that the law draws -/
def wide (ns : List Int) (w : Int) : Int :=
  ((cell ns 2 * 1000003 ^ Int.toNat 7 + cell ns (2 + 1) ^ Int.toNat 2 * 9176263 + cell ns (2 + 2)).fmod (1 * 2 ^ (w * 7).toNat)).fdiv (2 ^ ((cell ns (2 + 3)).fmod (w * 7)).toNat)
theorem wide_ok {ns : List Int} {w : Int} (hw : 2 ≤ w) (hw9 : w ≤ 9) : 0 ≤ wide ns w ∧ wide ns w < 2 ^ 63 := by
  unfold wide
  generalize cell ns 2 * 1000003 ^ Int.toNat 7 + cell ns (2 + 1) ^ Int.toNat 2 * 9176263 + cell ns (2 + 2) = x
  generalize ((cell ns (2 + 3)).fmod (w * 7)).toNat = j
  have hp := two_pow_pos (w * 7).toNat
  have hj := two_pow_pos j
  rw [fmod_emod, fdiv_ediv]
  have h0 := Int.emod_nonneg x (show (2 : Int) ^ (w * 7).toNat ≠ 0 by omega)
  have h1 := Int.emod_lt_of_pos x hp
  have h2 : (2 : Int) ^ (w * 7).toNat ≤ 2 ^ 63 := by
    have : (2 : Nat) ^ (w * 7).toNat ≤ 2 ^ 63 := Nat.pow_le_pow_right (by omega) (by omega)
    have h4 : ((2 ^ (w * 7).toNat : Nat) : Int) ≤ ((2 ^ 63 : Nat) : Int) := Int.ofNat_le.mpr this
    rwa [two_pow_cast, two_pow_cast] at h4
  exact ⟨Int.ediv_nonneg h0 (by omega), Int.lt_of_le_of_lt (Int.ediv_le_self _ h0) (by omega)⟩
end Mine
end
noncomputable section
open PySem PySem.W PyProof.Rows
open Builtin.Int (intBits)
namespace Mine
theorem fdm {x b : Int} : x.fdiv b * b + x.fmod b = x := by rw [Int.mul_comm]; exact Int.mul_fdiv_add_fmod x b
theorem worth_dig {b : Int} (hb : 2 ≤ b) : ∀ (n : Nat) (x : Int), 0 ≤ x → x.toNat = n → worth b (dig b.toNat x.toNat).reverse = x := by
  intro n
  induction n using Nat.strongRecOn with
  | _ n ih =>
    intro x hx e
    by_cases h0 : x = 0
    · subst h0
      rw [show (0 : Int).toNat = 0 from rfl, dig_zero]; rfl
    · have hp : 0 < x := by omega
      rw [dig_fd hp hb, List.reverse_cons, worth_snoc, ih (x.fdiv b).toNat (by rw [← e]; exact dig_fdlt hp hb) _ (dig_fd0 hx hb) rfl]
      exact fdm
theorem worth_dig0 {b x : Int} (hb : 2 ≤ b) (hx : 0 ≤ x) : worth b ([0, 0] ++ (dig b.toNat x.toNat).reverse) = x := by
  have e : worth b ([0, 0] ++ (dig b.toNat x.toNat).reverse) = worth b (dig b.toNat x.toNat).reverse := by simp [worth]
  rw [e, worth_dig hb _ x hx rfl]
theorem dig_range {B : Nat} (hB : 2 ≤ B) : ∀ n : Nat, ∀ d ∈ dig B n, 0 ≤ d ∧ d < (B : Int) := by
  intro n
  induction n using Nat.strongRecOn with
  | _ n ih =>
    intro d hd
    by_cases hn : n = 0
    · rw [hn, dig_zero] at hd; cases hd
    · rw [dig_pos hB hn] at hd
      rcases List.mem_cons.mp hd with rfl | hd
      · have := Nat.mod_lt n (show 0 < B by omega)
        omega
      · exact ih (n / B) (Nat.div_lt_self (by omega) (by omega)) d hd
theorem dig_digits {b x : Int} (hb : 2 ≤ b) : ∀ d ∈ [0, 0] ++ (dig b.toNat x.toNat).reverse, 0 ≤ d ∧ d < b := by
  intro d hd
  rcases List.mem_append.mp hd with hd | hd
  · have : d = 0 := by simpa using hd
    omega
  · have := dig_range (B := b.toNat) (by omega) _ d (List.mem_reverse.mp hd)
    omega
theorem len64 {w x : Int} (hw : 2 ≤ w) (hx : 0 ≤ x) (h : x < 2 ^ 64) : (lm w x).length ≤ 64 := lm_len_pow (by omega) h
theorem dlen64 {b x : Int} (hb : 2 ≤ b) (hx : 0 ≤ x) (h : x < 2 ^ 64) : (dig b.toNat x.toNat).length ≤ 64 := dig_len_pow (by omega) 64 _ (by omega)
theorem far_ok {b e : Int} (hb : 2 ≤ b) (hb9 : b ≤ 70) (he0 : 1 ≤ e) (he : e ≤ 5) : 2 ≤ b ^ e.toNat ∧ b ^ e.toNat ≤ 1680700000 := by
  have h1 := pow_le_left (show 0 ≤ b by omega) hb9 e.toNat
  have h2 := pow_le_right (b := 70) (by omega) (show e.toNat ≤ 5 by omega)
  have h3 := pow_le_right (b := b) (by omega) (show 1 ≤ e.toNat by omega)
  rw [Int.pow_one] at h3
  have h4 : (70 : Int) ^ 5 = 1680700000 := by decide +kernel
  omega
theorem near_ok {n f : Int} (hn : 0 ≤ n) (hf : 2 ≤ f) : 0 ≤ n.fdiv f * f ∧ n.fdiv f * f ≤ n ∧ 0 ≤ n.fdiv f ∧ n.fdiv f ≤ n := by
  have e := fdm (x := n) (b := f)
  rw [Int.fmod_eq_emod_of_nonneg _ (by omega)] at e
  have h0 := Int.emod_nonneg n (show f ≠ 0 by omega)
  rw [Int.fdiv_eq_ediv_of_nonneg _ (by omega)] at e ⊢
  have h1 := Int.ediv_nonneg hn (show 0 ≤ f by omega)
  have h2 := Int.mul_nonneg h1 (show 0 ≤ f by omega)
  exact ⟨h2, by omega, h1, Int.ediv_le_self _ hn⟩
theorem fm {x k : Int} (hk : 0 < k) : 0 ≤ x.fmod k ∧ x.fmod k < k := by
  rw [Int.fmod_eq_emod_of_nonneg _ (by omega)]
  exact ⟨Int.emod_nonneg _ (by omega), Int.emod_lt_of_pos _ hk⟩
theorem no_pylong_lt {x y : Int} (h0 : 0 < y) (h : y < 2 ^ 64) : Builtin.divisionGoesByPylong x y = false := by
  refine PyProof.noPylong_of_log2 ?_
  have : y.natAbs.log2 < 64 := (Nat.log2_lt (by omega)).mpr (by omega)
  omega
/-- the drawn row of digits -/
def rowOf (ns : List Int) (b : Int) (m : Nat) : List Int := (rangeKs 0 m).map fun k => (cell ns k).fmod b
theorem rowOf_ok {ns : List Int} {b : Int} {m : Nat} (hb : 2 ≤ b) : ∀ d ∈ rowOf ns b m, 0 ≤ d ∧ d < b := by
  intro d hd
  obtain ⟨k, _, rfl⟩ := List.mem_map.mp hd
  exact fm (by omega)
theorem rowOf_length (ns : List Int) (b : Int) (m : Nat) : (rowOf ns b m).length = m := by simp [rowOf, rangeKs_length]
theorem bad_over {ds : List Int} {b : Int} : ¬ ∀ d ∈ ds ++ [b], 0 ≤ d ∧ d < b := fun h => by
  have := h b (List.mem_append_right _ (.head _))
  omega
theorem bad_below {ds : List Int} {b : Int} : ¬ ∀ d ∈ [0 - 1] ++ ds, 0 ≤ d ∧ d < b := fun h => by
  have := h (0 - 1) (.head _)
  omega
end Mine
end
noncomputable section
open PySem PySem.W PyProof.Rows PySem.Calls
namespace Mine
def fras (fr : List Env) : List Addr := fr.filterMap (·.frame)
/-- an exception of the class at 49 has left the callee -/
def Flown (H : Heap) (fr : List Env) (s : Shared) (v : Value) (s' : Shared) : Prop :=
  ∃ e t h' tk, v = .ref e ∧ s' = { s with heap := h', toks := tk } ∧ Heap.FlyingW (hideAll H (fras fr)) fr e (.ref 49) (.ref t) h' ∧ H.UpToSlots h'
def Raises (W : Wd) (d u : Nat) (f : Addr) (vs : List Value) (H : Heap) : Prop :=
  ∀ (A : Around) (fr : List Env) (base : Heap) (s : Shared), s.heap = H → A.handled = none → Below A base fr H → (hd.heap_39 W.w.params).In H → Top hd.view_39 (looseW hd.view_39 []) W.mean W.mg W.mb H → A.depth + d < recursionLimit → A.units + u < cLine →
    wpAny (model PySem.Challenge.rw_nn0010_01.row.prog W.w) A (call (.ref f) vs) (fun _ _ => False) (Flown H fr s) s
def Left (W : Wd) (A : Around) (env : Env) (H : Heap) (fr : List Env) (s : Shared) (e : Value) (s' : Shared) : Prop :=
  wpAny (model PySem.Challenge.rw_nn0010_01.row.prog W.w) (A.deeper env) (leaving env e) (fun _ s'' => Flown H fr s e s'') (fun _ _ => False) s'
theorem hide_sub {H h : Heap} {fr : List Env} {L : Addr} {m : Str → Option Value} (F : Fr H L h m) : (hideAll H (fras fr)).StaysIn (hideAll h (L :: fras fr)) := fun b o q => by
  have q' := of_hideAll _ q
  refine hideAll_get _ (F.keep _ _ q') fun hm => ?_
  rcases List.mem_cons.mp hm with rfl | hm
  · exact absurd (Nat.lt_of_lt_of_le (Heap.lt_size q') F.above) (Nat.lt_irrefl _)
  · rw [hideAll_none _ hm] at q; cases q
theorem fras_in (fr : List Env) : ∀ env ∈ fr, ∀ b, env.frame = some b → b ∈ fras fr := fun env he b hb => List.mem_filterMap.mpr ⟨env, he, hb⟩
section
variable {W : Wd} {d u : Nat} {f : Addr} {vs : List Value} {A : Around} {fr : List Env} {base H h : Heap} {L : Addr} {m : Str → Option Value} {s s' : Shared} {E : Value → Shared → Prop}
    {cn : Str} {cs : Scope} {a e t : Addr} {cd : Value}
theorem left_made {tk : Nat} {h₂ : Heap} {ws : List Value} (K : Below A base fr H) (F : Fr H L h m) (hx : Heap.MadeExcOf h h₂ e (.ref 49) ws) (hk : cs.kind = .function := by rfl) :
    Left W A (envOf cn cs L a cd) H fr s (.ref e) { s with heap := h₂, toks := tk } := by
  have K' := K.push (name := cn) (a := a) (cd := cd) F hk
  have hl : h.FunFrames (hideAll H (fras fr)) (envOf cn cs L a cd :: fr) := funFrames_base (hide_sub F) (funFrames_hide K'.frames (fras_in (envOf cn cs L a cd :: fr)))
  refine wpAny_leaves_madeW K'.stack rfl (fun b o q => F.keep _ _ (of_hideAll _ q)) hl hx fun h' t x1 _ _ x4 => ?_
  exact ⟨e, t, h', tk, rfl, rfl, x1, ((Heap.UpToSlots.of_keeps F.keep).trans (Heap.UpToSlots.of_keeps hx.keeps)).trans x4⟩
theorem left_on {tk : Nat} {h₂ : Heap} (K : Below A base fr H) (F : Fr H L h m) (fl : Heap.FlyingW (hideAll h (L :: fras fr)) (envOf cn cs L a cd :: fr) e (.ref 49) (.ref t) h₂) (U : h.UpToSlots h₂) :
    Left W A (envOf cn cs L a cd) H fr s (.ref e) { s with heap := h₂, toks := tk } := by
  refine wpAny_leaves_onW (Around.frames_deeper K.stack) rfl fl fun h' x1 x2 => ?_
  exact ⟨e, t, h', tk, rfl, rfl, flyingW_base (hide_sub F) x1, ((Heap.UpToSlots.of_keeps F.keep).trans U).trans x2⟩
theorem Raises.use {Q : Value → Shared → Prop} {h₀ : Heap} (F : Fr h₀ L s.heap m) (B : Below A base fr h₀) (X : (hd.heap_39 W.w.params).In h₀) (T : Top hd.view_39 (looseW hd.view_39 []) W.mean W.mg W.mb h₀) (hk : cs.kind = .function) (hh : A.handled = none)
    (D : Raises W d u f vs s.heap) (hd : A.depth + 1 + d < recursionLimit) (hu : A.units + 3 + u < cLine)
    (k : ∀ e t h' tk, Heap.FlyingW (hideAll s.heap (L :: fras fr)) (envOf cn cs L a cd :: fr) e (.ref 49) (.ref t) h' → s.heap.UpToSlots h' → E (.ref e) { s with heap := h', toks := tk }) :
    wpAny (model PySem.Challenge.rw_nn0010_01.row.prog W.w) (A.deeper (envOf cn cs L a cd)) (call (.ref f) vs) Q E s := by
  have B' := B.push (name := cn) (a := a) (cd := cd) F hk
  refine wpAny_mono (D _ _ _ s rfl hh B' (X.keeps F.keep) (T.keeps F.keep) hd hu) (fun _ _ x => x.elim) (fun v s' hv => ?_)
  obtain ⟨e, t, h', tk, rfl, rfl, x1, x2⟩ := hv
  exact k e t h' tk x1 x2
end
theorem Raises.enter {W : Wd} {d u : Nat} {f : Addr} {vs : List Value} {H : Heap} {name qual : Str} {params : Arguments} {body : List Stmt} {scope : Scope} {dV kV doc pm cdv ct oc : Value} {an od : Option Addr} {osl : Array (Option Value)} {binds : List (Str × Value)}
    (ho : (hd.heap_39 W.w.params).lookup f = some ⟨oc, od, .func (fnOf name qual params body scope dV kV doc pm an cdv ct), osl⟩) (hcd : codeIn (hd.heap_39 W.w.params) cdv qual = true)
    (hbind : ∀ s, BindsTo s (fnOf name qual params body scope dV kV doc pm an cdv ct) ⟨vs, []⟩ binds) (hloc : ∀ y ∈ binds, scope.names.lookup y.1 = some .local)
    (h : ∀ (dp un : Nat) (gd : Option (List Code)) (fr : List Env) (base : Heap) (s : Shared) (L : Addr) (h₁ : Heap), L = H.objs.size → s.heap = H → (hd.heap_39 W.w.params).In H → Top hd.view_39 (looseW hd.view_39 []) W.mean W.mg W.mb H → Below (ar dp un gd fr) base fr H → Fr H L h₁ (lkf binds.reverse) → News H L h₁ [] → dp + (d + 1) < recursionLimit → un + (u + 8) < cLine →
      wpAny (model PySem.Challenge.rw_nn0010_01.row.prog W.w) ((ar dp un gd fr).deeper (envOf qual scope L f cdv)) (execs body (envOf qual scope L f cdv)) (fun _ _ => False) (fun e s' => Left W (ar dp un gd fr) (envOf qual scope L f cdv) H fr s e s') { s with heap := h₁, toks := s.toks + binds.length })
    (hco : scope.isCoroutine = false) (hgen : scope.isGenerator = false) (hk : scope.kind = .function)
    (hcell : ∀ x ∈ scope.names, x.2 ≠ .cell) : Raises W (d + 1) (u + 8) f vs H := by
  rintro ⟨hd, dp, fr', gd, un⟩ fr base s hs hh hB hX hT hd' hu'
  obtain rfl : hd = none := hh
  obtain rfl : fr' = some fr := hB.stack
  subst hs
  refine wpAny_call (codeAny_call_def (fd := fnOf name qual params body scope dV kV doc pm an cdv ct) (body := body) (binds := binds) (by show dp < _; dsimp only at hd'; omega) (hX _ _ ho) rfl hT.nolimit (codeRec_of hX hcd) rfl (hbind s) hcell hloc (fun h₁ hns hk₁ => ?_) hco hgen hk)
  refine wpAny_mono (h dp un gd fr base s s.heap.objs.size h₁ rfl rfl hX hT hB (fr_lkf ⟨hns, hk₁, Nat.le_refl _⟩) (fun p hp => nomatch hp) hd' hu') (fun fl s' hl => hl.elim) (fun e s' hl => ?_)
  exact wpAny_mono hl (fun _ _ x => x) fun _ _ x => x.elim
end Mine
end
noncomputable section
open PySem PySem.W PyProof.Rows PySem.Calls
namespace Mine
/-- the end of a call that caught an exception: all stands but the outer frames' slots -/
def FinT (H : Heap) (fr : List Env) (s : Shared) (R : Value → Prop) (v : Value) (s' : Shared) : Prop :=
  ∃ h' tk, s' = { s with heap := h', toks := tk } ∧ (hideAll H (fras fr)).StaysIn h' ∧ H.UpToSlots h' ∧ R v
def Catches (W : Wd) (d u : Nat) (f : Addr) (vs : List Value) (H : Heap) (R : Value → Prop) : Prop :=
  ∀ (A : Around) (fr : List Env) (base : Heap) (s : Shared), s.heap = H → A.handled = none → Below A base fr H → (hd.heap_39 W.w.params).In base → Top hd.view_39 (looseW hd.view_39 []) W.mean W.mg W.mb base → A.depth + d < recursionLimit → A.units + u < cLine →
    wpAny (model PySem.Challenge.rw_nn0010_01.row.prog W.w) A (call (.ref f) vs) (FinT H fr s R) (fun _ _ => False) s
theorem FinT.mk {H h' : Heap} {fr : List Env} {L : Addr} {m : Str → Option Value} {s : Shared} {tk : Nat} {R : Value → Prop} {v : Value} (F : Fr (hideAll H (fras fr)) L h' m) (U : H.UpToSlots h') (r : R v) : FinT H fr s R v { s with heap := h', toks := tk } :=
  ⟨h', tk, rfl, F.keep, U, r⟩
section
variable {W : Wd} {d u : Nat} {f : Addr} {vs : List Value} {A : Around} {fr : List Env} {base H h : Heap} {L : Addr} {m : Str → Option Value} {s s' : Shared} {E : Value → Shared → Prop}
    {cn : Str} {cs : Scope} {a e t : Addr} {cd : Value}
theorem base_hidden (K : Below A base fr H) : base.StaysIn (hideAll H (fras fr)) := fun b o q => hideAll_get _ (K.stays b o q) fun hm => by
  rw [(K.frames.mem hm).1] at q; cases q
theorem caught {b₀ : Stmt} {suite : List Stmt} {pos np : Pos} {rest : List ExceptHandler} {Q : Flow → Shared → Prop} {KF : Frag} {bmB : List Value} {newId : String} {p : Program} {loose : List Str} {mg mb : Str → Option Value} {x : Str}
    (K : Below A base fr H) (F : Fr H L h m) (fl : Heap.FlyingW (hideAll h (L :: fras fr)) (envOf cn cs L a cd :: fr) e (.ref 49) (.ref t) s'.heap) (U : h.UpToSlots s'.heap)
    (X : KF.In base) (T : TopRead p loose mg mb base) (ex : nsIn KF mainGlobals x = some (some (.ref 49))) (q : excIn KF 49 bmB newId = true) (hbase : bmB.contains (.type "BaseException") = true)
    (k : ∀ h', Fr (hideAll H (fras fr)) L h' m → H.UpToSlots h' → KF.In (hideAll H (fras fr)) →
      wpAny (model PySem.Challenge.rw_nn0010_01.row.prog W.w) ((A.deeper (envOf cn cs L a cd)).mark (some (.ref e))) (execs (b₀ :: suite) (envOf cn cs L a cd)) Q (fun _ _ => False) { s' with heap := h' })
    (hk : cs.kind = .function := by rfl) (hx : (envOf cn cs L a cd).kindOf x = some .globalImplicit := by rfl) (hd : (x == ("__debug__" : Str)) = false := by decide) :
    wpAny (model PySem.Challenge.rw_nn0010_01.row.prog W.w) (A.deeper (envOf cn cs L a cd)) (noteFrame (.ref e) (envOf cn cs L a cd))
      (fun _ s₂ => wpAny (model PySem.Challenge.rw_nn0010_01.row.prog W.w) (A.deeper (envOf cn cs L a cd)) (setFlight (.ref e) none) (fun _ s₃ =>
        wpAny (model PySem.Challenge.rw_nn0010_01.row.prog W.w) (A.deeper (envOf cn cs L a cd)) (handleBy (.ref e) (envOf cn cs L a cd) (.ExceptHandler (some (.Name x np)) none (b₀ :: suite) pos :: rest)) Q (fun _ _ => False) s₃) (fun _ _ => False) s₂) (fun _ _ => False) s' := by
  have UH := (Heap.UpToSlots.of_keeps F.keep).trans U
  have hbb := base_hidden K
  have frOf : ∀ {h'' : Heap}, (hideAll h (L :: fras fr)).StaysIn h'' → h.UpToSlots h'' → Fr (hideAll H (fras fr)) L h'' m := fun st U' =>
    ⟨U'.ns F.ns, fun b o q => st b o (hide_sub F b o q), Nat.le_trans (Nat.le_of_eq (hideAll_size _ _)) F.above⟩
  refine wpAny_looks_onW (Around.frames_deeper K.stack) rfl fl fun h₄ hheld₄ sm₄ => ?_
  refine wpAny_landsW hheld₄ fun h₅ fl₅ sm₅ => ?_
  have U₅ := (U.trans sm₄).trans sm₅
  have F₅ := frOf fl₅.1 U₅
  obtain ⟨ob, hob, hobc⟩ := fl₅.there
  refine wpAny_handleBy_cons (codeAny_handlers_test (name_K F₅ (X.keeps hbb) (T.keeps hbb) ex ?_ hk hx hd)) (by intro q; cases q)
  obtain ⟨bm, N, nm, qn, bs, hdct, sn, sub, ab, col, dd, k0, k1, k2, k3, k5, mN, hC, hN, hni, TL⟩ := ((own_of_in X T ex q).keeps fun b o z => F₅.keep b o (hbb b o z)).obj
  refine wpAny_excMatches_sub_self hC hob hobc (TL.hasType hbase) (codeAny_handlers_suite ?_)
  refine lands_againW fl₅ fun h₆ fl₆ sm₆ => ?_
  exact wpAny_passesOwnAt PassesOwnAt.never (k h₆ (frOf fl₆.1 (U₅.trans sm₆)) ((UH.trans (sm₄.trans sm₅)).trans sm₆) (X.keeps hbb))
end
theorem Catches.enter {W : Wd} {d u : Nat} {f : Addr} {vs : List Value} {H : Heap} {R : Value → Prop} {name qual : Str} {params : Arguments} {body : List Stmt} {scope : Scope} {dV kV doc pm cdv ct oc : Value} {an od : Option Addr} {osl : Array (Option Value)} {binds : List (Str × Value)}
    (ho : (hd.heap_39 W.w.params).lookup f = some ⟨oc, od, .func (fnOf name qual params body scope dV kV doc pm an cdv ct), osl⟩) (hcd : codeIn (hd.heap_39 W.w.params) cdv qual = true)
    (hbind : ∀ s, BindsTo s (fnOf name qual params body scope dV kV doc pm an cdv ct) ⟨vs, []⟩ binds) (hloc : ∀ y ∈ binds, scope.names.lookup y.1 = some .local)
    (h : ∀ (dp un : Nat) (gd : Option (List Code)) (fr : List Env) (base : Heap) (s : Shared) (L : Addr) (h₁ : Heap), L = H.objs.size → s.heap = H → (hd.heap_39 W.w.params).In H → Top hd.view_39 (looseW hd.view_39 []) W.mean W.mg W.mb H → (hd.heap_39 W.w.params).In base → Top hd.view_39 (looseW hd.view_39 []) W.mean W.mg W.mb base → Below (ar dp un gd fr) base fr H → Fr H L h₁ (lkf binds.reverse) → News H L h₁ [] → dp + (d + 1) < recursionLimit → un + (u + 8) < cLine →
      wpAny (model PySem.Challenge.rw_nn0010_01.row.prog W.w) ((ar dp un gd fr).deeper (envOf qual scope L f cdv)) (execs body (envOf qual scope L f cdv)) (fun fl s' => FinT H fr s R (match fl with | .ret v => v | _ => .none) s') (fun _ _ => False) { s with heap := h₁, toks := s.toks + binds.length })
    (hco : scope.isCoroutine = false) (hgen : scope.isGenerator = false) (hk : scope.kind = .function)
    (hcell : ∀ x ∈ scope.names, x.2 ≠ .cell) : Catches W (d + 1) (u + 8) f vs H R := by
  rintro ⟨hd, dp, fr', gd, un⟩ fr base s hs hh hB hXb hTb hd' hu'
  obtain rfl : hd = none := hh
  obtain rfl : fr' = some fr := hB.stack
  have hX := hXb.keeps hB.stays
  have hT := hTb.keeps hB.stays
  subst hs
  refine wpAny_call (codeAny_call_def (fd := fnOf name qual params body scope dV kV doc pm an cdv ct) (body := body) (binds := binds) (by show dp < _; dsimp only at hd'; omega) (hX _ _ ho) rfl hT.nolimit (codeRec_of hX hcd) rfl (hbind s) hcell hloc (fun h₁ hns hk₁ => ?_) hco hgen hk)
  exact wpAny_mono (h dp un gd fr base s s.heap.objs.size h₁ rfl rfl hX hT hXb hTb hB (fr_lkf ⟨hns, hk₁, Nat.le_refl _⟩) (fun p hp => nomatch hp) hd' hu') (fun fl s' hl => hl) (fun _ _ x => x.elim)
/-- used in a frame that the world called -/
theorem Catches.use {W : Wd} {d u : Nat} {f : Addr} {vs : List Value} {R : Value → Prop} {A : Around} {h₀ : Heap} {L : Addr} {m : Str → Option Value} {news : List (Addr × Obj)} {s : Shared} {Q E : Value → Shared → Prop}
    {cn : Str} {cs : Scope} {a : Addr} {cd : Value}
    (F : Fr h₀ L s.heap m) (N : News h₀ L s.heap news) (B : Below A h₀ [] h₀) (X : (hd.heap_39 W.w.params).In h₀) (T : Top hd.view_39 (looseW hd.view_39 []) W.mean W.mg W.mb h₀) (hk : cs.kind = .function) (hh : A.handled = none)
    (D : Catches W d u f vs s.heap R) (hd : A.depth + 1 + d < recursionLimit) (hu : A.units + 3 + u < cLine)
    (k : ∀ v h' tk, Fr h₀ L h' m → News h₀ L h' news → R v → Q v { s with heap := h', toks := tk }) :
    wpAny (model PySem.Challenge.rw_nn0010_01.row.prog W.w) (A.deeper (envOf cn cs L a cd)) (call (.ref f) vs) Q E s := by
  have B' := B.push (name := cn) (a := a) (cd := cd) F hk
  refine wpAny_mono (D _ _ _ s rfl hh B' X T hd hu) (fun v s' hv => ?_) (fun _ _ x => x.elim)
  obtain ⟨h', tk, rfl, st, U, r⟩ := hv
  have keep : ∀ b o, b ≠ L → s.heap.get? b = some o → h'.get? b = some o := fun b o hb q => st b o (hideAll_get _ q fun hm => by
    rcases List.mem_cons.mp (show b ∈ [L] from hm) with e | e
    · exact hb e
    · cases e)
  refine k v h' tk ⟨U.ns F.ns, fun b o q => keep b o (fun e => ?_) (F.keep b o q), F.above⟩ (fun p hp => ⟨keep _ _ (N p hp).2.1 (N p hp).1, (N p hp).2⟩) r
  subst e
  exact absurd (Nat.lt_of_lt_of_le (Heap.lt_size q) F.above) (Nat.lt_irrefl _)
end Mine
end
noncomputable section
open PySem PySem.W PyProof.Rows PySem.Calls
namespace Mine
section
variable {W : Wd} {d u : Nat} {f : Addr} {vs : List Value} {A : Around} {fr : List Env} {base h₀ : Heap} {L : Addr} {m : Str → Option Value} {news : List (Addr × Obj)} {s : Shared} {Q E : Value → Shared → Prop} {env : Env}
theorem push_env {h : Heap} (K : Below A base fr h₀) (F : Fr h₀ L h m) (hk : env.scope.kind = .function) (hf : env.frame = some L) : Below (A.deeper env) base (env :: fr) h := by
  have hnew : base.get? L = none := by
    cases hq : base.get? L with
    | none => rfl
    | some o => exact absurd (Nat.lt_of_lt_of_le (Heap.lt_size (K.stays L o hq)) F.above) (Nat.lt_irrefl _)
  refine ⟨Around.frames_deeper K.stack, fun b o e => F.keep b o (K.stays b o e), ?_⟩
  exact .cons (by rw [hk]; decide) hf F.ns hnew (K.frames.of_keeps fun b o e _ => ⟨o, F.keep b o e, rfl⟩)
theorem Does.useE (F : Fr h₀ L s.heap m) (N : News h₀ L s.heap news) (B : Below A base fr h₀) (X : (hd.heap_39 W.w.params).In h₀) (T : Top hd.view_39 (looseW hd.view_39 []) W.mean W.mg W.mb h₀) (hk : env.scope.kind = .function) (hf : env.frame = some L) (hh : A.handled = none) {R : Heap → Value → Prop}
    (D : Does W d u f vs s.heap R) (hd : (A.deeper env).depth + d < recursionLimit) (hu : (A.deeper env).units + u < cLine)
    (k : ∀ v h' tk, Fr h₀ L h' m → News h₀ L h' news → (∀ p ∈ news, p.1 < s.heap.objs.size) → L < s.heap.objs.size → s.heap.StaysIn h' → R h' v → Q v { s with heap := h', toks := tk }) :
    wpAny (model PySem.Challenge.rw_nn0010_01.row.prog W.w) (A.deeper env) (call (.ref f) vs) Q E s := by
  have B' := push_env B F hk hf
  refine wpAny_mono (D _ _ _ s rfl hh B' (X.keeps F.keep) (T.keeps F.keep) hd hu) (fun v s' hv => ?_) (fun _ _ x => x.elim)
  obtain ⟨h', tk, rfl, st, r⟩ := hv
  obtain ⟨oL, a1, a2, hL, a3⟩ := F.ns
  exact k v h' tk ⟨⟨oL, a1, a2, st _ _ hL, a3⟩, fun b o e => st _ _ (F.keep b o e), F.above⟩ (fun p hp => ⟨st _ _ (N p hp).1, (N p hp).2⟩) (fun p hp => Heap.lt_size (N p hp).1) (Heap.lt_size hL) st r
theorem Does.useEV {R : Value → Prop} (F : Fr h₀ L s.heap m) (N : News h₀ L s.heap news) (B : Below A base fr h₀) (X : (hd.heap_39 W.w.params).In h₀) (T : Top hd.view_39 (looseW hd.view_39 []) W.mean W.mg W.mb h₀) (hk : env.scope.kind = .function) (hf : env.frame = some L) (hh : A.handled = none)
    (D : Does W d u f vs s.heap (fun _ v => R v)) (hd : (A.deeper env).depth + d < recursionLimit) (hu : (A.deeper env).units + u < cLine)
    (k : ∀ v h' tk, Fr h₀ L h' m → News h₀ L h' news → R v → Q v { s with heap := h', toks := tk }) :
    wpAny (model PySem.Challenge.rw_nn0010_01.row.prog W.w) (A.deeper env) (call (.ref f) vs) Q E s :=
  Does.useE F N B X T hk hf hh D hd hu fun v h' tk F' N' _ _ _ r => k v h' tk F' N' r
theorem Does.useEI {x : Int} (F : Fr h₀ L s.heap m) (N : News h₀ L s.heap news) (B : Below A base fr h₀) (X : (hd.heap_39 W.w.params).In h₀) (T : Top hd.view_39 (looseW hd.view_39 []) W.mean W.mg W.mb h₀) (hk : env.scope.kind = .function) (hf : env.frame = some L) (hh : A.handled = none)
    (D : Does W d u f vs s.heap (fun _ v => ∃ t, v = .int x t)) (hd : (A.deeper env).depth + d < recursionLimit) (hu : (A.deeper env).units + u < cLine)
    (k : ∀ t h' tk, Fr h₀ L h' m → News h₀ L h' news → Q (.int x t) { s with heap := h', toks := tk }) :
    wpAny (model PySem.Challenge.rw_nn0010_01.row.prog W.w) (A.deeper env) (call (.ref f) vs) Q E s :=
  Does.useE F N B X T hk hf hh D hd hu fun v h' tk F' N' _ _ _ r => by obtain ⟨t, rfl⟩ := r; exact k t h' tk F' N'
theorem Does.useEL {ns : List Int} (F : Fr h₀ L s.heap m) (N : News h₀ L s.heap news) (B : Below A base fr h₀) (X : (hd.heap_39 W.w.params).In h₀) (T : Top hd.view_39 (looseW hd.view_39 []) W.mean W.mg W.mb h₀) (hk : env.scope.kind = .function) (hf : env.frame = some L) (hh : A.handled = none)
    (D : Does W d u f vs s.heap (fun h' v => NewInts s.heap h' ns v)) (hd : (A.deeper env).depth + d < recursionLimit) (hu : (A.deeper env).units + u < cLine)
    (k : ∀ l its n h' tk, Fr h₀ L h' m → News h₀ L h' ((l, PySem.W.listOf (List.toArray its) n) :: news) → (∀ p ∈ news, p.1 ≠ l) → IntsAre its ns → Q (.ref l) { s with heap := h', toks := tk }) :
    wpAny (model PySem.Challenge.rw_nn0010_01.row.prog W.w) (A.deeper env) (call (.ref f) vs) Q E s :=
  Does.useE F N B X T hk hf hh D hd hu fun v h' tk F' N' _ _ _ r => by
    obtain ⟨l, its, n, rfl, hf, ho, hi⟩ := r
    exact k l its n h' tk F' (news_new F N' hf ho) (news_apart N hf) hi
theorem Catches.useE {R : Value → Prop} (F : Fr h₀ L s.heap m) (N : News h₀ L s.heap news) (B : Below A h₀ [] h₀) (X : (hd.heap_39 W.w.params).In h₀) (T : Top hd.view_39 (looseW hd.view_39 []) W.mean W.mg W.mb h₀) (hk : env.scope.kind = .function) (hf : env.frame = some L) (hh : A.handled = none)
    (D : Catches W d u f vs s.heap R) (hd : (A.deeper env).depth + d < recursionLimit) (hu : (A.deeper env).units + u < cLine)
    (k : ∀ v h' tk, Fr h₀ L h' m → News h₀ L h' news → R v → Q v { s with heap := h', toks := tk }) :
    wpAny (model PySem.Challenge.rw_nn0010_01.row.prog W.w) (A.deeper env) (call (.ref f) vs) Q E s := by
  have B' := push_env B F hk hf
  refine wpAny_mono (D _ _ _ s rfl hh B' X T hd hu) (fun v s' hv => ?_) (fun _ _ x => x.elim)
  obtain ⟨h', tk, rfl, st, U, r⟩ := hv
  have keep : ∀ b o, b ≠ L → s.heap.get? b = some o → h'.get? b = some o := fun b o hb q => st b o (hideAll_get _ q fun hm => by
    simp only [fras, List.filterMap_cons, hf, List.filterMap_nil] at hm
    exact hb (List.mem_singleton.mp hm))
  refine k v h' tk ⟨U.ns F.ns, fun b o q => keep b o (fun e => ?_) (F.keep b o q), F.above⟩ (fun p hp => ⟨keep _ _ (N p hp).2.1 (N p hp).1, (N p hp).2⟩) r
  subst e
  exact absurd (Nat.lt_of_lt_of_le (Heap.lt_size q) F.above) (Nat.lt_irrefl _)
end
section
variable {prog : Program} {w : World} {A : Around} {E : Value → Shared → Prop} {Q : Flow → Shared → Prop} {s : Shared} {env : Env} {h₀ : Heap} {x : Str} {body : List Stmt}
theorem allLt_mem {d : Nat} : ∀ {l : List (Addr × Obj)}, AllLt d l → ∀ p ∈ l, p.1 < d
  | [], _, _, h => nomatch h
  | _ :: _, x, p, h => by
    rcases List.mem_cons.mp h with rfl | h
    · exact x.1
    · exact allLt_mem x.2 p h
/-- a for over a tuple of ints that the frame has made -/
theorem for_tup {σ : Type} {T : Addr} {items : List Value} {ks : List Int} {oT : Obj} {m₀ : Str → Option Value} {news : List (Addr × Obj)} (mm : (Str → Option Value) → σ → Str → Option Value) (led : Addr → σ → List (Addr × Obj)) (P : Nat → σ → Prop) (adr : Addr → List Addr) (l₁ : Addr) (c₀ : σ)
    (hh : A.handled = none) (hT : s.heap.IsTuple T items.toArray) (hmT : (T, oT) ∈ news) (hi : IntsAre items ks)
    (F : Fr h₀ env.locals s.heap m₀) (N : News h₀ env.locals s.heap news) (hm : ∀ y, y ≠ x → m₀ y = mm m₀ c₀ y) (hN : ∀ p ∈ led l₁ c₀, p ∈ news) (hNT : ∀ p ∈ led l₁ c₀, p.1 ≠ T) (ha : ∀ c, (led l₁ c).map (·.1) = adr l₁) (hp : P 0 c₀)
    (turn : ∀ (c : σ) (i : Nat) n t h tk own (K : Flow → Shared → Prop), (∀ f s₂, FPost h₀ env.locals x { s with heap := h, toks := tk } (mm m₀) (led l₁) (P (i + 1)) own Q f s₂ → K f s₂) → ks[i]? = some n → P i c → OwnOff own (adr l₁) → Fr h₀ env.locals h (fun y => if y = x then some (.int n t) else mm m₀ c y) → News h₀ env.locals h (led l₁ c ++ own) →
      wpAny (model prog w) A (execs body env) K E { s with heap := h, toks := tk })
    (done : ∀ (c : σ) (u : Option Value) h tk, P ks.length c → Fr h₀ env.locals h (fun y => if y = x then u else mm m₀ c y) → News h₀ env.locals h (led l₁ c) → Q .next { s with heap := h, toks := tk }) :
    wpAny (model prog w) A (pyIter (.ref T)) (fun it s₂ => LoopAtV prog w A h₀ env x body Q E it s₂) E s := by
  have hTl : T < s.heap.objs.size := Heap.lt_size (N _ hmT).1
  have hne : T ≠ s.heap.objs.size := Nat.ne_of_lt hTl
  refine wpAny_pyIter_tuple hT ?_
  have W := Walks.tuple (prog := prog) (w := w) hh s.heap.objs.size T hne items.toArray
  have hlen : items.toArray.size = ks.length := by simp [hi.length]
  rw [hlen] at W
  have N' := news_sub N hN
  refine loop_invN (news := led l₁ c₀) (fun i m nx => ∃ c : σ, nx = led l₁ c ∧ (∀ y, y ≠ x → m y = mm m₀ c y) ∧ P i c) W ?_ ?_ ?_ ?_ ⟨⟨_, Heap.get?_push_size _ rfl, rfl, rfl⟩, hT.push _⟩ (F.push _) (fun p hp => ⟨Heap.get?_push_of_some _ (N' p hp).1, (N' p hp).2⟩) ⟨c₀, rfl, hm, hp⟩ ?_ ?_
  · intro hmem
    rcases List.mem_cons.mp hmem with e | hmem
    · exact absurd F.ns.lt (e ▸ Nat.lt_irrefl _)
    · exact absurd (List.mem_singleton.mp hmem).symm (N _ hmT).2.1
  · intro b hb
    rw [List.mem_singleton.mp hb]
    exact next_is_new F
  · intro p hp hI
    exact absurd (Heap.lt_size (N' p hp).1) ((List.mem_singleton.mp hI) ▸ Nat.lt_irrefl _)
  · intro p hp hI
    rcases List.mem_cons.mp hI with e | hI
    · exact absurd (Heap.lt_size (N' p hp).1) (e ▸ Nat.lt_irrefl _)
    · exact hNT p hp (List.mem_singleton.mp hI)
  · rintro i v m₁ nx h tk own hin hP _ hoff ⟨c, rfl, h1, hp'⟩ F₁ N₁
    rw [ha] at hoff ⊢
    have hlt : i < ks.length := hin
    obtain ⟨t, hx⟩ := hi.get i ks[i] (by simp [hlt])
    have hv : v = .int ks[i] t := by
      have hP' : items[i]? = some v := by simpa using hP
      rw [hx] at hP'; exact (Option.some.inj hP').symm
    subst hv
    refine wpAny_mono (turn c i ks[i] t h tk own _ (fun _ _ x => x) (by simp [hlt]) hp' hoff (fr_under F₁ h1) N₁) (fun f s₂ p => ?_) fun _ _ e => e
    exact fpost_of ha (fun c m e hp => ⟨c, rfl, e, hp⟩) p
  · rintro m₁ nx h tk ⟨c, rfl, h1, hp'⟩ F₁ N₁
    refine done c (m₁ x) h tk hp' (fr_ext F₁ fun y => ?_) N₁
    by_cases h : y = x
    · rw [if_pos h, h]
    · rw [if_neg h]; exact h1 y h
end
end Mine
end
open PySem PySem.W PyProof.Rows PySem.Calls Mine
local macro_rules | `(tactic| k_upd) => `(tactic| exact Upd.head (by assumption))
local macro_rules | `(tactic| walk_at "subscriptTail Name Slice ref ref") => `(tactic| ((with_reducible show wpAny _ _ (subscriptTail _ (PySem.Expr.Slice none (some _) none _) (Value.ref _) (Value.ref _)) _ _ _); (k_dflt (refine' slice_rl ?F ?N ?l ?r ?p ?q ?y ?z ?_ ?s ?t; (case F => k_asm); (case N => k_asm); (case l => is_list); (case r => assumption); (case p => kmk_part); (case q => kmk_part); (case y => decide); (case z => omega); (case s => with_unfolding_all rfl); (case t => kmk_pure))); intro D' h' F' N' l1 hRL'; (try k_lt l1); (try k_sweep)))
local macro_rules | `(tactic| walk_at $s:str) => `(tactic| k_extra $s)
noncomputable section
namespace Mine
theorem words : True := by
  (k_with "exec While Compare cons nil" => refine Hold.mk ?_)
  (k_with "exec While BoolOp cons nil" => refine Hold.mk ?_)
  (k_with "exec While" => refine Hold.mk ?_)
  (k_with "pyIter ref" => refine Hold.mk ?_)
  (k_with "pyIter" => refine Hold.mk ?_)
  (k_with "exec For Name Name cons nil" => (k_here; (rename Fr _ _ _ _ => lF'); (with_unfolding_all refine For_invVF lF' (by exact rfl) (by exact rfl) ?_); k_whole))
  (k_with "exec For Name Call cons nil" => (k_here; (rename Fr _ _ _ _ => lF'); (with_unfolding_all refine For_invVF lF' (by exact rfl) (by exact rfl) ?_); k_whole))
  (k_with "exec For Name Subscript cons nil" => (k_here; (rename Fr _ _ _ _ => lF'); (with_unfolding_all refine For_invVF lF' (by exact rfl) (by exact rfl) ?_); k_whole))
  (k_with "binaryOp LShift int int" => (refine lshift_int (by omega) (by assumption) ?_))
  (k_with "call ref" => refine Hold.mk ?_)
  (k_with "binaryOp FloorDiv int int" => (refine floordiv_int (by omega) ?_ (Or.inl (by assumption))))
  (k_with "eval Call" => (k_dflt (refine PyProof.Rows.Call_ ?_)))
  (k_with "exec For Name Tuple cons nil" => (k_here; (rename Fr _ _ _ _ => lF'); (with_unfolding_all refine For_invVF lF' (by exact rfl) (by exact rfl) ?_); k_whole))
  (k_with "execs cons" => first | (k_here; k_gentoks) | ((with_reducible refine PySem.wpAny_execs_cons ?_); (try dsimp only); (try k_fold)))
  (k_with "call builtin:len" => ((with_unfolding_all refine len_rl (by is_list) (by assumption) (by omega) ?_); k_whole))
  (k_with "subscriptTail Name UnaryOp ref int" => ((with_unfolding_all refine item_rl_neg (by is_list) (by assumption) (by decide) (by omega) (by decide) (by assumption) ?_ (by with_unfolding_all rfl) (by kmk_pure)); k_whole))
  (k_with "subscriptTail Name Name ref int" => ((with_unfolding_all refine item_rl (by is_list) (by assumption) (by omega) (by omega) (by assumption) ?_ (by with_unfolding_all rfl) (by kmk_pure)); k_whole))
  (k_with "binaryOp Pow int int" => (refine pow_int (by omega) (by omega) ?_))
  (k_with "CompSrc" => refine Hold.mk ?_)
  trivial
theorem nat_of_does (W : Wd) (b w : Int) (t u : Tok) (hb : 0 ≤ b) (hw : 2 ≤ w) (hw9 : w ≤ 9) (hlen : (lm w b).length < 1048576) (H : Heap) : Does W 1 8 65 [.int b t, .int w u] H (fun h' v => NewInts H h' (lm w b) v) := by
  w_top off
  refine fill _ W.w ?_
  k_fill
  intro _
  refine' Does.enter (binds := [(PySem.Str.ofString "number", .int b t), (PySem.Str.ofString "w", .int w u)]) ?k6 ?k7 ?k9 ?kB ?_ ?c2 ?c3 ?c4 ?c5
  case k6 => k_is
  case k7 => k_is
  case k9 => (intro _; exact BindsTo.of_eq rfl)
  case c5 => decide
  case kB => exact locs rfl
  case c2 => exact rfl
  case c3 => exact rfl
  case c4 => exact rfl
  k_whole
  intro dp un gd fr base s0 L h1 hL hs X T B F N hd hu
  (try dsimp only [Nat.zero_add, Nat.reduceAdd] at hd hu)
  try dsimp only
  replace F : Fr H L h1 (fun y => if y = PySem.Str.ofString "w" then some (.int w u) else if y = PySem.Str.ofString "number" then some (.int b t) else none) := F
  (try k_fold)
  k_steps
  unfold Hold
  refine' while_rule (σ := Int × Tok × List Value × List Int × Nat) (fun m c y => if y = Str.ofString "number" then some (.int c.1 c.2.1) else m y)
    (fun l c => [(l, PySem.W.listOf c.2.2.1.toArray c.2.2.2.2)]) (fun c => 0 ≤ c.1 ∧ IntsAre c.2.2.1 c.2.2.2.1 ∧ c.2.2.2.1 ++ lm w c.1 = lm w b) (fun c => c.1.toNat) _ (b, _, [], [], 0) ?F ?N ?hm ?hN ?hp ?turn PassesOwn.never
  case F => assumption
  case N => assumption
  case hm => (intro y; (try dsimp only); by_cases h0 : y = Str.ofString "number"; (case pos => first | exact (if_pos h0).trans (if_pos h0).symm | (subst h0; with_unfolding_all exact rfl) | (simp only [if_pos h0]; done) | (simp only [if_pos h0]; rfl) | (subst h0; with_unfolding_all exact rfl)); (case neg => (first | rfl | ((repeat refine (if_neg (by assumption)).trans ?_); (repeat refine Eq.trans ?_ (if_neg (by assumption)).symm); done) | ((repeat refine (if_neg (by assumption)).trans ?_); (repeat refine Eq.trans ?_ (if_neg (by assumption)).symm); with_reducible rfl) | (simp only [if_neg h0]; done) | (simp only [if_neg h0]; rfl))))
  case hN => (first | exact List.forall_mem_nil _ | exact List.forall_mem_cons.mpr ⟨by k_mem, List.forall_mem_nil _⟩ | exact List.forall_mem_cons.mpr ⟨by k_mem, List.forall_mem_cons.mpr ⟨by k_mem, List.forall_mem_nil _⟩⟩ | exact List.forall_mem_cons.mpr ⟨by k_mem, List.forall_mem_cons.mpr ⟨by k_mem, List.forall_mem_cons.mpr ⟨by k_mem, List.forall_mem_nil _⟩⟩⟩)
  case hp => exact ⟨hb, .nil, rfl⟩
  case turn =>
    refine pr5 (fun num tn vs ns n => ?_)
    intro h3 tk3 K hK
    refine an3 (fun hp0 hp1 hp2 => ?_)
    intro F3 N3
    dsimp only at *
    (try k_fold)
    have hv : vs.length < 1048576 := by
      have := congrArg List.length hp2
      rw [hp1.length]; simp only [List.length_append] at this; omega
    k_steps
    · (rename Fr _ _ _ _ => F4); (rename News _ _ _ _ => N4); (rename 0 < num => hpos)
      (simp only [List.push_toArray, List.cons_append, List.nil_append] at N4)
      refine' hK _ _ (WPost.next (_, _, _, ns ++ [Builtin.bitAnd num (1 * 2 ^ w.toNat - 1)], _) F4 N4 ?ke ?kn ?kp ?km)
      case ke => (intro y; (try dsimp only); by_cases h0 : y = Str.ofString "number"; (case pos => first | exact (if_pos h0).trans (if_pos h0).symm | (subst h0; with_unfolding_all exact rfl) | (simp only [if_pos h0]; done) | (simp only [if_pos h0]; rfl) | (subst h0; with_unfolding_all exact rfl)); (case neg => (first | rfl | ((repeat refine (if_neg (by assumption)).trans ?_); (repeat refine Eq.trans ?_ (if_neg (by assumption)).symm); done) | ((repeat refine (if_neg (by assumption)).trans ?_); (repeat refine Eq.trans ?_ (if_neg (by assumption)).symm); with_reducible rfl) | (simp only [if_neg h0]; done) | (simp only [if_neg h0]; rfl))))
      case kn => (first | exact List.forall_mem_nil _ | exact List.forall_mem_cons.mpr ⟨by k_mem, List.forall_mem_nil _⟩ | exact List.forall_mem_cons.mpr ⟨by k_mem, List.forall_mem_cons.mpr ⟨by k_mem, List.forall_mem_nil _⟩⟩ | exact List.forall_mem_cons.mpr ⟨by k_mem, List.forall_mem_cons.mpr ⟨by k_mem, List.forall_mem_cons.mpr ⟨by k_mem, List.forall_mem_nil _⟩⟩⟩)
      case kp =>
        dsimp only
        refine ⟨fdiv_nonneg _ _ hp0, ints_snoc hp1 rfl, ?_⟩
        rw [List.append_assoc, List.singleton_append, ← lm_and (by omega) hpos]
        exact hp2
      case km => exact fdiv_lt (by omega) hpos
    · have hz : num = 0 := by omega
      subst hz
      rw [lm_zero, List.append_nil] at hp2
      exact Fin.mk F3 (newInts_of N3 (.head _) (hp2 ▸ hp1))
theorem law_limbs_does (W : Wd) (x w : Int) (t u : Tok) (hb : 0 ≤ x) (hw : 2 ≤ w) (hw9 : w ≤ 9) (hlen : (lm w x).length < 1048576) (H : Heap) : Does W 1 8 191 [.int x t, .int w u] H (fun h' v => NewInts H h' (lm w x) v) := by
  w_top off
  refine fill _ W.w ?_
  k_fill
  intro _
  refine' Does.enter (binds := [(PySem.Str.ofString "n", .int x t), (PySem.Str.ofString "w", .int w u)]) ?k6 ?k7 ?k9 ?kB ?_ ?c2 ?c3 ?c4 ?c5
  case k6 => k_is
  case k7 => k_is
  case k9 => (intro _; exact BindsTo.of_eq rfl)
  case c5 => decide
  case kB => exact locs rfl
  case c2 => exact rfl
  case c3 => exact rfl
  case c4 => exact rfl
  k_whole
  intro dp un gd fr base s0 L h1 hL hs X T B F N hd hu
  (try dsimp only [Nat.zero_add, Nat.reduceAdd] at hd hu)
  try dsimp only
  replace F : Fr H L h1 (fun y => if y = PySem.Str.ofString "w" then some (.int w u) else if y = PySem.Str.ofString "n" then some (.int x t) else none) := F
  (try k_fold)
  k_steps
  unfold Hold
  refine' while_rule (σ := Int × Tok × List Value × List Int × Nat) (fun m c y => if y = Str.ofString "n" then some (.int c.1 c.2.1) else m y)
    (fun l c => [(l, PySem.W.listOf c.2.2.1.toArray c.2.2.2.2)]) (fun c => 0 ≤ c.1 ∧ IntsAre c.2.2.1 c.2.2.2.1 ∧ c.2.2.2.1 ++ lm w c.1 = lm w x) (fun c => c.1.toNat) _ (x, _, [], [], 0) ?F ?N ?hm ?hN ?hp ?turn PassesOwn.never
  case F => assumption
  case N => assumption
  case hm => (intro y; (try dsimp only); by_cases h0 : y = Str.ofString "n"; (case pos => first | exact (if_pos h0).trans (if_pos h0).symm | (subst h0; with_unfolding_all exact rfl) | (simp only [if_pos h0]; done) | (simp only [if_pos h0]; rfl) | (subst h0; with_unfolding_all exact rfl)); (case neg => (first | rfl | ((repeat refine (if_neg (by assumption)).trans ?_); (repeat refine Eq.trans ?_ (if_neg (by assumption)).symm); done) | ((repeat refine (if_neg (by assumption)).trans ?_); (repeat refine Eq.trans ?_ (if_neg (by assumption)).symm); with_reducible rfl) | (simp only [if_neg h0]; done) | (simp only [if_neg h0]; rfl))))
  case hN => (first | exact List.forall_mem_nil _ | exact List.forall_mem_cons.mpr ⟨by k_mem, List.forall_mem_nil _⟩ | exact List.forall_mem_cons.mpr ⟨by k_mem, List.forall_mem_cons.mpr ⟨by k_mem, List.forall_mem_nil _⟩⟩ | exact List.forall_mem_cons.mpr ⟨by k_mem, List.forall_mem_cons.mpr ⟨by k_mem, List.forall_mem_cons.mpr ⟨by k_mem, List.forall_mem_nil _⟩⟩⟩)
  case hp => exact ⟨hb, .nil, rfl⟩
  case turn =>
    refine pr5 (fun num tn vs ns n => ?_)
    intro h3 tk3 K hK
    refine an3 (fun hp0 hp1 hp2 => ?_)
    intro F3 N3
    dsimp only at *
    (try k_fold)
    have hv : vs.length < 1048576 := by
      have := congrArg List.length hp2
      rw [hp1.length]; simp only [List.length_append] at this; omega
    k_steps
    · (rename Fr _ _ _ _ => F4); (rename News _ _ _ _ => N4); (rename 0 < num => hpos)
      (simp only [List.push_toArray, List.cons_append, List.nil_append] at N4)
      refine' hK _ _ (WPost.next (_, _, _, ns ++ [num.fmod (1 * 2 ^ w.toNat)], _) F4 N4 ?ke ?kn ?kp ?km)
      case ke => (intro y; (try dsimp only); by_cases h0 : y = Str.ofString "n"; (case pos => first | exact (if_pos h0).trans (if_pos h0).symm | (subst h0; with_unfolding_all exact rfl) | (simp only [if_pos h0]; done) | (simp only [if_pos h0]; rfl) | (subst h0; with_unfolding_all exact rfl)); (case neg => (first | rfl | ((repeat refine (if_neg (by assumption)).trans ?_); (repeat refine Eq.trans ?_ (if_neg (by assumption)).symm); done) | ((repeat refine (if_neg (by assumption)).trans ?_); (repeat refine Eq.trans ?_ (if_neg (by assumption)).symm); with_reducible rfl) | (simp only [if_neg h0]; done) | (simp only [if_neg h0]; rfl))))
      case kn => (first | exact List.forall_mem_nil _ | exact List.forall_mem_cons.mpr ⟨by k_mem, List.forall_mem_nil _⟩ | exact List.forall_mem_cons.mpr ⟨by k_mem, List.forall_mem_cons.mpr ⟨by k_mem, List.forall_mem_nil _⟩⟩ | exact List.forall_mem_cons.mpr ⟨by k_mem, List.forall_mem_cons.mpr ⟨by k_mem, List.forall_mem_cons.mpr ⟨by k_mem, List.forall_mem_nil _⟩⟩⟩)
      case kp =>
        dsimp only
        refine ⟨fdiv_nonneg _ _ hp0, ints_snoc hp1 rfl, ?_⟩
        rw [List.append_assoc, List.singleton_append, fmod_emod, fdiv_ediv, ← lm_cons (by omega) hpos]
        exact hp2
      case km => exact fdiv_lt (by omega) hpos
    · have hz : num = 0 := by omega
      subst hz
      rw [lm_zero, List.append_nil] at hp2
      exact Fin.mk F3 (newInts_of N3 (.head _) (hp2 ▸ hp1))
theorem mul_limb_does (W : Wd) (la : Addr) (va : List Value) (x k w : Int) (t u : Tok) (H : Heap) (hla : H.IsList la va.toArray) (hia : IntsAre va (lm w x)) (hx : 0 ≤ x) (hk : 0 < k) (hkB : k < 2 ^ w.toNat) (hw : 2 ≤ w) (hw9 : w ≤ 9)
    (hna : (lm w x).length < 1048576) (hlen : (lm w (x * k)).length < 1048576) : Does W 1 8 86 [.ref la, .int k t, .int w u] H (fun h' v => NewInts H h' (lm w (x * k)) v) := by
  w_top off
  refine fill _ W.w ?_
  k_fill
  intro _
  refine' Does.enter (binds := [(PySem.Str.ofString "a", .ref la), (PySem.Str.ofString "limb", .int k t), (PySem.Str.ofString "w", .int w u)]) ?k6 ?k7 ?k9 ?kB ?_ ?c2 ?c3 ?c4 ?c5
  case k6 => k_is
  case k7 => k_is
  case k9 => (intro _; exact BindsTo.of_eq rfl)
  case c5 => decide
  case kB => exact locs rfl
  case c2 => exact rfl
  case c3 => exact rfl
  case c4 => exact rfl
  k_whole
  intro dp un gd fr base s0 L h1 hL hs X T B F N hd hu
  (try dsimp only [Nat.zero_add, Nat.reduceAdd] at hd hu)
  try dsimp only
  replace F : Fr H L h1 (fun y => if y = PySem.Str.ofString "w" then some (.int w u) else if y = PySem.Str.ofString "limb" then some (.int k t) else if y = PySem.Str.ofString "a" then some (.ref la) else none) := F
  (try k_fold)
  k_steps
  · exfalso; omega
  unfold Hold
  refine' for_list (σ := Int × Tok × List Value × List Int × Nat × Int) (fun m c y => if y = Str.ofString "carry" then some (.int c.1 c.2.1) else m y)
    (fun l c => [(l, PySem.W.listOf c.2.2.1.toArray c.2.2.2.2.1)]) (fun i c => 0 ≤ c.1 ∧ c.1 < 2 ^ w.toNat ∧ IntsAre c.2.2.1 c.2.2.2.1 ∧ 0 ≤ c.2.2.2.2.2 ∧ (lm w x).drop i = lm w c.2.2.2.2.2 ∧ c.2.2.2.1 ++ lm w (c.2.2.2.2.2 * k + c.1) = lm w (x * k)) (fun l => [l]) _ (0, _, [], [], 0, x) rfl hla hia ?F ?N ?hm ?hN ?ha ?hp ?turn ?done
  case F => assumption
  case N => assumption
  case hm => (intro y hyx; (try dsimp only); by_cases h0 : y = Str.ofString "carry"; (case pos => first | exact (if_pos h0).trans (if_pos h0).symm | (subst h0; with_unfolding_all exact rfl) | (simp only [if_neg hyx, if_pos h0]; done) | (simp only [if_neg hyx, if_pos h0]; rfl) | (subst h0; with_unfolding_all exact rfl)); (case neg => (first | rfl | ((repeat refine (if_neg (by assumption)).trans ?_); (repeat refine Eq.trans ?_ (if_neg (by assumption)).symm); done) | ((repeat refine (if_neg (by assumption)).trans ?_); (repeat refine Eq.trans ?_ (if_neg (by assumption)).symm); with_reducible rfl) | (simp only [if_neg hyx, if_neg h0]; done) | (simp only [if_neg hyx, if_neg h0]; rfl))))
  case hN => (first | exact List.forall_mem_nil _ | exact List.forall_mem_cons.mpr ⟨by k_mem, List.forall_mem_nil _⟩ | exact List.forall_mem_cons.mpr ⟨by k_mem, List.forall_mem_cons.mpr ⟨by k_mem, List.forall_mem_nil _⟩⟩ | exact List.forall_mem_cons.mpr ⟨by k_mem, List.forall_mem_cons.mpr ⟨by k_mem, List.forall_mem_cons.mpr ⟨by k_mem, List.forall_mem_nil _⟩⟩⟩)
  case ha => (intro c; rfl)
  case hp => exact ⟨by omega, two_pow_pos _, .nil, hx, by simp, by simp⟩
  case turn =>
    refine pr6 (fun c tc vs ns n X => ?_)
    intro i d td h3 tk3 own K hK hi
    refine an6 (fun hc0 hcB hp1 hX hdr hp2 => ?_)
    intro hoff F3 N3
    dsimp only at *
    (try k_fold)
    have hB := pow_le_512 hw9
    have hd := lm_get (by omega) hdr hi
    have hv : vs.length < 1048576 := by
      have := congrArg List.length hp2
      rw [hp1.length]; simp only [List.length_append] at this; omega
    k_steps
    (rename Fr _ _ _ _ => F4); (rename News _ _ _ _ => N4)
    (simp only [List.push_toArray, List.cons_append, List.nil_append] at N4)
    obtain ⟨hXp, hd0, hdB, hde, hdr'⟩ := hd
    have hcl := carry_lt (X := X) (two_le_powI (w := w) (by omega)) (Int.le_of_lt hk) hkB hc0 hcB
    rw [← hde] at hcl
    have hdk := Int.mul_nonneg hd0 (Int.le_of_lt hk)
    refine' hK _ _ (FPost.next (_, _, _, ns ++ [Builtin.bitAnd (c + d * k) (1 * 2 ^ w.toNat - 1)], _, X / 2 ^ w.toNat) F4 N4 ?ke ?kn ?ko ?kp)
    case ke => (intro y hyx; (try dsimp only); by_cases h0 : y = Str.ofString "carry"; (case pos => first | exact (if_pos h0).trans (if_pos h0).symm | (subst h0; with_unfolding_all exact rfl) | (simp only [if_neg hyx, if_pos h0]; done) | (simp only [if_neg hyx, if_pos h0]; rfl) | (subst h0; with_unfolding_all exact rfl)); (case neg => (first | rfl | ((repeat refine (if_neg (by assumption)).trans ?_); (repeat refine Eq.trans ?_ (if_neg (by assumption)).symm); done) | ((repeat refine (if_neg (by assumption)).trans ?_); (repeat refine Eq.trans ?_ (if_neg (by assumption)).symm); with_reducible rfl) | (simp only [if_neg hyx, if_neg h0]; done) | (simp only [if_neg hyx, if_neg h0]; rfl))))
    case kn => (first | exact List.forall_mem_nil _ | exact List.forall_mem_cons.mpr ⟨by k_mem, List.forall_mem_nil _⟩ | exact List.forall_mem_cons.mpr ⟨by k_mem, List.forall_mem_cons.mpr ⟨by k_mem, List.forall_mem_nil _⟩⟩ | exact List.forall_mem_cons.mpr ⟨by k_mem, List.forall_mem_cons.mpr ⟨by k_mem, List.forall_mem_cons.mpr ⟨by k_mem, List.forall_mem_nil _⟩⟩⟩)
    case ko => exact fun p hp => List.mem_cons_of_mem _ hp
    case kp =>
      dsimp only
      rw [fdiv_ediv]
      refine ⟨hcl.1, hcl.2, ints_snoc hp1 rfl, ediv_nn hX (two_le_powI (by omega)), hdr', ?_⟩
      have hpos := Int.mul_pos hXp hk
      rw [lm_mul_step (by omega) hX hc0 (by omega), ← hde] at hp2
      rw [and_mod _ (by omega), List.append_assoc, List.singleton_append]
      exact hp2
  case done =>
    refine pr6 (fun c tc vs ns n X => ?_)
    intro v h3 tk3
    refine an6 (fun hc0 hcB hp1 hX hdr hp2 => ?_)
    intro F3 N3
    dsimp only at *
    (try k_fold)
    have hX0 : X = 0 := lm_done (by omega) hX hdr (Nat.le_refl _)
    subst hX0
    have hv : vs.length < 1048576 := by
      have := congrArg List.length hp2
      rw [hp1.length]; simp only [List.length_append] at this; omega
    rw [Int.zero_mul, Int.zero_add] at hp2
    k_steps
    · (rename Fr _ _ _ _ => F4); (rename News _ _ _ _ => N4); (rename 0 < c => hpos)
      (simp only [List.push_toArray, List.cons_append, List.nil_append] at N4)
      rw [lm_small (by omega) hpos hcB] at hp2
      exact Fin.mk F4 (newInts_of N4 (.head _) (hp2 ▸ ints_snoc hp1 rfl))
    · (rename Fr _ _ _ _ => F4); (rename News _ _ _ _ => N4)
      rw [show c = 0 by omega, lm_zero, List.append_nil] at hp2
      exact Fin.mk F4 (newInts_of N4 (.head _) (hp2 ▸ hp1))
/-- behind the swap -/
def AddMid (H : Heap) (L : Addr) (s : Shared) (w : Int) (u : Tok) (x y : Int) (f : Flow) (s' : Shared) : Prop :=
  f = .next ∧ ∃ la lb va vb X Y h' tk, s' = { s with heap := h', toks := tk } ∧ Fr H L h' (fun y => if y = PySem.Str.ofString "w" then some (.int w u) else if y = PySem.Str.ofString "b" then some (.ref lb) else if y = PySem.Str.ofString "a" then some (.ref la) else none) ∧
    H.IsList la (List.toArray va) ∧ IntsAre va (lm w X) ∧ H.IsList lb (List.toArray vb) ∧ IntsAre vb (lm w Y) ∧ 0 ≤ X ∧ 0 ≤ Y ∧ (lm w Y).length ≤ (lm w X).length ∧ (lm w X).length < 1048576 ∧ (lm w Y).length < 1048576 ∧ X + Y = x + y
theorem add_does (W : Wd) (la lb : Addr) (va vb : List Value) (x y w : Int) (u : Tok) (H : Heap) (hla : H.IsList la va.toArray) (hia : IntsAre va (lm w x)) (hlb : H.IsList lb vb.toArray) (hib : IntsAre vb (lm w y)) (hx : 0 ≤ x) (hy : 0 ≤ y) (hw : 2 ≤ w) (hw9 : w ≤ 9)
    (hna : (lm w x).length < 1048576) (hnb : (lm w y).length < 1048576) (hlen : (lm w (x + y)).length < 1048576) : Does W 1 8 79 [.ref la, .ref lb, .int w u] H (fun h' v => NewInts H h' (lm w (x + y)) v) := by
  w_top off
  refine fill _ W.w ?_
  k_fill
  intro _
  refine' Does.enter (binds := [(PySem.Str.ofString "a", .ref la), (PySem.Str.ofString "b", .ref lb), (PySem.Str.ofString "w", .int w u)]) ?k6 ?k7 ?k9 ?kB ?_ ?c2 ?c3 ?c4 ?c5
  case k6 => k_is
  case k7 => k_is
  case k9 => (intro _; exact BindsTo.of_eq rfl)
  case c5 => decide
  case kB => exact locs rfl
  case c2 => exact rfl
  case c3 => exact rfl
  case c4 => exact rfl
  k_whole
  intro dp un gd fr base s0 L h1 hL hs X T B F N hd hu
  (try dsimp only [Nat.zero_add, Nat.reduceAdd] at hd hu)
  try dsimp only
  replace F : Fr H L h1 (fun y => if y = PySem.Str.ofString "w" then some (.int w u) else if y = PySem.Str.ofString "b" then some (.ref lb) else if y = PySem.Str.ofString "a" then some (.ref la) else none) := F
  (try k_fold)
  refine PySem.wpAny_execs_cons (wpAny_mono (Q := AddMid H L s0 w u x y) ?ifs ?rest (fun _ _ h => h))
  case ifs =>
    k_steps
    · refine ⟨rfl, lb, la, vb, va, y, x, _, _, rfl, fr_ext (by assumption) ?_, hlb, hib, hla, hia, hy, hx, by omega, hnb, hna, Int.add_comm y x⟩
      (intro y; (try dsimp only); by_cases h0 : y = Str.ofString "w"; (case pos => first | exact (if_pos h0).trans (if_pos h0).symm | (subst h0; with_unfolding_all exact rfl) | (simp only [if_pos h0]; done) | (simp only [if_pos h0]; rfl) | (subst h0; with_unfolding_all exact rfl)); (case neg => by_cases h1 : y = Str.ofString "b"; (case pos => first | exact (if_pos h1).trans (if_pos h1).symm | (subst h1; with_unfolding_all exact rfl) | (simp only [if_neg h0, if_pos h1]; done) | (simp only [if_neg h0, if_pos h1]; rfl) | (subst h1; with_unfolding_all exact rfl)); (case neg => by_cases h2 : y = Str.ofString "a"; (case pos => first | exact (if_pos h2).trans (if_pos h2).symm | (subst h2; with_unfolding_all exact rfl) | (simp only [if_neg h0, if_neg h1, if_pos h2]; done) | (simp only [if_neg h0, if_neg h1, if_pos h2]; rfl) | (subst h2; with_unfolding_all exact rfl)); (case neg => (first | rfl | ((repeat refine (if_neg (by assumption)).trans ?_); (repeat refine Eq.trans ?_ (if_neg (by assumption)).symm); done) | ((repeat refine (if_neg (by assumption)).trans ?_); (repeat refine Eq.trans ?_ (if_neg (by assumption)).symm); with_reducible rfl) | (simp only [if_neg h0, if_neg h1, if_neg h2]; done) | (simp only [if_neg h0, if_neg h1, if_neg h2]; rfl))))))
    · exact ⟨rfl, la, lb, va, vb, x, y, _, _, rfl, by assumption, hla, hia, hlb, hib, hx, hy, by omega, hna, hnb, rfl⟩
  case rest =>
    clear F N hna hnb hla hia hlb hib
    rintro f s' ⟨rfl, A1, B1, vA, vB, X0, Y0, h2, tk2, rfl, F2, hA, hiA, hB, hiB, hX0, hY0, hle, hnA, hnB, hsum⟩
    have N2 : News H L h2 [] := fun p hp => nomatch hp
    dsimp only
    k_steps
    unfold Hold
    refine' for_up (σ := Int × Tok × List Value × List Int × Nat × Int × Int) (fun m c y => if y = Str.ofString "carry" then some (.int c.1 c.2.1) else m y)
      (fun l c => [(l, PySem.W.listOf c.2.2.1.toArray c.2.2.2.2.1)]) (fun i c => 0 ≤ c.1 ∧ c.1 ≤ 1 ∧ IntsAre c.2.2.1 c.2.2.2.1 ∧ 0 ≤ c.2.2.2.2.2.1 ∧ 0 ≤ c.2.2.2.2.2.2 ∧ (lm w X0).drop i = lm w c.2.2.2.2.2.1 ∧ (lm w Y0).drop i = lm w c.2.2.2.2.2.2 ∧ c.2.2.2.1 ++ lm w (c.2.2.2.2.2.1 + c.2.2.2.2.2.2 + c.1) = lm w (x + y)) (fun l => [l]) _ (0, _, [], [], 0, X0, Y0) rfl (by assumption) (by omega) (by omega) (by omega) (by omega) ?F ?N ?hm ?hN ?ha ?hp ?turn ?done
    case F => assumption
    case N => assumption
    case hm => (intro y hyx; (try dsimp only); by_cases h0 : y = Str.ofString "carry"; (case pos => first | exact (if_pos h0).trans (if_pos h0).symm | (subst h0; with_unfolding_all exact rfl) | (simp only [if_neg hyx, if_pos h0]; done) | (simp only [if_neg hyx, if_pos h0]; rfl) | (subst h0; with_unfolding_all exact rfl)); (case neg => (first | rfl | ((repeat refine (if_neg (by assumption)).trans ?_); (repeat refine Eq.trans ?_ (if_neg (by assumption)).symm); done) | ((repeat refine (if_neg (by assumption)).trans ?_); (repeat refine Eq.trans ?_ (if_neg (by assumption)).symm); with_reducible rfl) | (simp only [if_neg hyx, if_neg h0]; done) | (simp only [if_neg hyx, if_neg h0]; rfl))))
    case hN => (first | exact List.forall_mem_nil _ | exact List.forall_mem_cons.mpr ⟨by k_mem, List.forall_mem_nil _⟩ | exact List.forall_mem_cons.mpr ⟨by k_mem, List.forall_mem_cons.mpr ⟨by k_mem, List.forall_mem_nil _⟩⟩ | exact List.forall_mem_cons.mpr ⟨by k_mem, List.forall_mem_cons.mpr ⟨by k_mem, List.forall_mem_cons.mpr ⟨by k_mem, List.forall_mem_nil _⟩⟩⟩)
    case ha => (intro c; rfl)
    case hp => exact ⟨by omega, by omega, .nil, by omega, by omega, by simp, by simp, by dsimp only; rw [List.nil_append, Int.add_zero, hsum]⟩
    case turn =>
      refine pr7 (fun c tc vs ns n X9 Y9 => ?_)
      intro i td h3 tk3 own K hK hi
      refine an8 (fun hc0 hc1 hp1 hX hY hdx hdy hp2 => ?_)
      intro hoff F3 N3
      dsimp only at *
      (try k_fold)
      rw [Int.zero_add] at F3
      have hB := pow_le_512 hw9
      have hi1 : i < (lm w Y0).length := by omega
      have hi2 : i < (lm w X0).length := by omega
      obtain ⟨hX0, hgx, -, hdx'⟩ := lm_at (by omega) hdx hi2
      obtain ⟨hY0, hgy, -, hdy'⟩ := lm_at (by omega) hdy hi1
      have hv : vs.length < 1048576 := by
        have := congrArg List.length hp2
        rw [hp1.length]; simp only [List.length_append] at this; omega
      k_steps
      (rename Fr _ _ _ _ => F4); (rename News _ _ _ _ => N4)
      (simp only [List.push_toArray, List.cons_append, List.nil_append] at N4)
      simp only [Int.toNat_natCast, hgx, hgy] at F4 N4
      have hcl := carry_le1 (X := X9) (Y := Y9) (two_le_powI (w := w) (by omega)) hc0 hc1
      refine' hK _ _ (FPost.next (_, _, _, ns ++ [Builtin.bitAnd (c + (X9 % 2 ^ w.toNat + Y9 % 2 ^ w.toNat)) (1 * 2 ^ w.toNat - 1)], _, X9 / 2 ^ w.toNat, Y9 / 2 ^ w.toNat) F4 N4 ?ke ?kn ?ko ?kp)
      case ke => (intro y hyx; (try dsimp only); by_cases h0 : y = Str.ofString "carry"; (case pos => first | exact (if_pos h0).trans (if_pos h0).symm | (subst h0; with_unfolding_all exact rfl) | (simp only [if_neg hyx, if_pos h0]; done) | (simp only [if_neg hyx, if_pos h0]; rfl) | (subst h0; with_unfolding_all exact rfl)); (case neg => (first | rfl | ((repeat refine (if_neg (by assumption)).trans ?_); (repeat refine Eq.trans ?_ (if_neg (by assumption)).symm); done) | ((repeat refine (if_neg (by assumption)).trans ?_); (repeat refine Eq.trans ?_ (if_neg (by assumption)).symm); with_reducible rfl) | (simp only [if_neg hyx, if_neg h0]; done) | (simp only [if_neg hyx, if_neg h0]; rfl))))
      case kn => (first | exact List.forall_mem_nil _ | exact List.forall_mem_cons.mpr ⟨by k_mem, List.forall_mem_nil _⟩ | exact List.forall_mem_cons.mpr ⟨by k_mem, List.forall_mem_cons.mpr ⟨by k_mem, List.forall_mem_nil _⟩⟩ | exact List.forall_mem_cons.mpr ⟨by k_mem, List.forall_mem_cons.mpr ⟨by k_mem, List.forall_mem_cons.mpr ⟨by k_mem, List.forall_mem_nil _⟩⟩⟩)
      case ko => exact fun p hp => List.mem_cons_of_mem _ hp
      case kp =>
        dsimp only
        rw [fdiv_ediv]
        have h2 := two_le_powI (w := w) (by omega)
        have hmx := Int.emod_nonneg X9 (show (2 : Int) ^ w.toNat ≠ 0 by omega)
        have hmy := Int.emod_nonneg Y9 (show (2 : Int) ^ w.toNat ≠ 0 by omega)
        refine ⟨hcl.1, hcl.2, ints_snoc hp1 rfl, ediv_nn hX h2, ediv_nn hY h2, hdx', hdy', ?_⟩
        rw [lm_add_step (by omega) hX hY hc0 (by omega)] at hp2
        rw [and_mod _ (by omega), List.append_assoc, List.singleton_append]
        exact hp2
    case done =>
      refine pr7 (fun c tc vs ns n X9 Y9 => ?_)
      intro v h3 tk3
      refine an8 (fun hc0 hc1 hp1 hX hY hdx hdy hp2 => ?_)
      intro F3 N3
      dsimp only at *
      (try k_fold)
      have hlen1 : ((((lm w Y0).length : Nat) : Int) - 0).toNat = (lm w Y0).length := by omega
      rw [hlen1] at hdx hdy
      have hY0 : Y9 = 0 := lm_done (by omega) hY hdy (Nat.le_refl _)
      subst hY0
      rw [Int.add_zero] at hp2
      k_steps
      unfold Hold
      refine' for_up (σ := Int × Tok × List Value × List Int × Nat × Int) (fun m c y => if y = Str.ofString "carry" then some (.int c.1 c.2.1) else m y)
        (fun l c => [(l, PySem.W.listOf c.2.2.1.toArray c.2.2.2.2.1)]) (fun i c => 0 ≤ c.1 ∧ c.1 ≤ 1 ∧ IntsAre c.2.2.1 c.2.2.2.1 ∧ 0 ≤ c.2.2.2.2.2 ∧ (lm w X0).drop ((lm w Y0).length + i) = lm w c.2.2.2.2.2 ∧ c.2.2.2.1 ++ lm w (c.2.2.2.2.2 + c.1) = lm w (x + y)) (fun l => [l]) _ (c, _, vs, ns, n, X9) rfl (by assumption) (by omega) (by omega) (by omega) (by omega) ?F ?N ?hm ?hN ?ha ?hp ?turn ?done
      case F => assumption
      case N => assumption
      case hm => (intro y hyx; (try dsimp only); by_cases h0 : y = Str.ofString "carry"; (case pos => first | exact (if_pos h0).trans (if_pos h0).symm | (subst h0; with_unfolding_all exact rfl) | (simp only [if_neg hyx, if_pos h0]; done) | (simp only [if_neg hyx, if_pos h0]; rfl) | (subst h0; with_unfolding_all exact rfl)); (case neg => (first | rfl | ((repeat refine (if_neg (by assumption)).trans ?_); (repeat refine Eq.trans ?_ (if_neg (by assumption)).symm); done) | ((repeat refine (if_neg (by assumption)).trans ?_); (repeat refine Eq.trans ?_ (if_neg (by assumption)).symm); with_reducible rfl) | (simp only [if_neg hyx, if_neg h0]; done) | (simp only [if_neg hyx, if_neg h0]; rfl))))
      case hN => (first | exact List.forall_mem_nil _ | exact List.forall_mem_cons.mpr ⟨by k_mem, List.forall_mem_nil _⟩ | exact List.forall_mem_cons.mpr ⟨by k_mem, List.forall_mem_cons.mpr ⟨by k_mem, List.forall_mem_nil _⟩⟩ | exact List.forall_mem_cons.mpr ⟨by k_mem, List.forall_mem_cons.mpr ⟨by k_mem, List.forall_mem_cons.mpr ⟨by k_mem, List.forall_mem_nil _⟩⟩⟩)
      case ha => (intro c; rfl)
      case hp => exact ⟨hc0, hc1, hp1, hX, hdx, hp2⟩
      case turn =>
        refine pr6 (fun c tc vs ns n X9 => ?_)
        intro i td h3 tk3 own K hK hi
        refine an6 (fun hc0 hc1 hp1 hX hdx hp2 => ?_)
        intro hoff F3 N3
        dsimp only at *
        (try k_fold)
        have hB := pow_le_512 hw9
        have hi2 : (lm w Y0).length + i < (lm w X0).length := by omega
        obtain ⟨hX0, hgx, -, hdx'⟩ := lm_at (by omega) hdx hi2
        have hv : vs.length < 1048576 := by
          have := congrArg List.length hp2
          rw [hp1.length]; simp only [List.length_append] at this; omega
        k_steps
        (rename Fr _ _ _ _ => F4); (rename News _ _ _ _ => N4)
        (simp only [List.push_toArray, List.cons_append, List.nil_append] at N4)
        have hix : ((((lm w Y0).length : Nat) : Int) + (i : Int)).toNat = (lm w Y0).length + i := by omega
        simp only [hix, hgx] at F4 N4
        have hcl := carry_le1 (X := X9) (Y := 0) (two_le_powI (w := w) (by omega)) hc0 hc1
        rw [Int.zero_emod, Int.add_zero] at hcl
        refine' hK _ _ (FPost.next (_, _, _, ns ++ [Builtin.bitAnd (c + X9 % 2 ^ w.toNat) (1 * 2 ^ w.toNat - 1)], _, X9 / 2 ^ w.toNat) F4 N4 ?ke ?kn ?ko ?kp)
        case ke => (intro y hyx; (try dsimp only); by_cases h0 : y = Str.ofString "carry"; (case pos => first | exact (if_pos h0).trans (if_pos h0).symm | (subst h0; with_unfolding_all exact rfl) | (simp only [if_neg hyx, if_pos h0]; done) | (simp only [if_neg hyx, if_pos h0]; rfl) | (subst h0; with_unfolding_all exact rfl)); (case neg => (first | rfl | ((repeat refine (if_neg (by assumption)).trans ?_); (repeat refine Eq.trans ?_ (if_neg (by assumption)).symm); done) | ((repeat refine (if_neg (by assumption)).trans ?_); (repeat refine Eq.trans ?_ (if_neg (by assumption)).symm); with_reducible rfl) | (simp only [if_neg hyx, if_neg h0]; done) | (simp only [if_neg hyx, if_neg h0]; rfl))))
        case kn => (first | exact List.forall_mem_nil _ | exact List.forall_mem_cons.mpr ⟨by k_mem, List.forall_mem_nil _⟩ | exact List.forall_mem_cons.mpr ⟨by k_mem, List.forall_mem_cons.mpr ⟨by k_mem, List.forall_mem_nil _⟩⟩ | exact List.forall_mem_cons.mpr ⟨by k_mem, List.forall_mem_cons.mpr ⟨by k_mem, List.forall_mem_cons.mpr ⟨by k_mem, List.forall_mem_nil _⟩⟩⟩)
        case ko => exact fun p hp => List.mem_cons_of_mem _ hp
        case kp =>
          dsimp only
          rw [fdiv_ediv]
          have h2 := two_le_powI (w := w) (by omega)
          have hmx := Int.emod_nonneg X9 (show (2 : Int) ^ w.toNat ≠ 0 by omega)
          refine ⟨hcl.1, hcl.2, ints_snoc hp1 rfl, ediv_nn hX h2, hdx', ?_⟩
          have hst := lm_add_step (w := w) (X := X9) (Y := 0) (c := c) (by omega) hX (by omega) hc0 (by omega)
          rw [Int.zero_emod, Int.zero_ediv, Int.add_zero, Int.add_zero, Int.add_zero] at hst
          rw [hst] at hp2
          rw [and_mod _ (by omega), List.append_assoc, List.singleton_append]
          exact hp2
      case done =>
        refine pr6 (fun c tc vs ns n X9 => ?_)
        intro v h3 tk3
        refine an6 (fun hc0 hc1 hp1 hX hdx hp2 => ?_)
        intro F3 N3
        dsimp only at *
        (try k_fold)
        have hX0 : X9 = 0 := lm_done (by omega) hX hdx (by omega)
        subst hX0
        rw [Int.zero_add] at hp2
        have hv : vs.length < 1048576 := by
          have := congrArg List.length hp2
          rw [hp1.length]; simp only [List.length_append] at this; omega
        k_steps
        · (rename Fr _ _ _ _ => F4); (rename News _ _ _ _ => N4); (rename 0 < c => hpos)
          (simp only [List.push_toArray, List.cons_append, List.nil_append] at N4)
          have h2 := two_le_powI (w := w) (by omega)
          rw [lm_small (by omega) hpos (by omega)] at hp2
          exact Fin.mk F4 (newInts_of N4 (.head _) (hp2 ▸ ints_snoc hp1 rfl))
        · (rename Fr _ _ _ _ => F4); (rename News _ _ _ _ => N4)
          rw [show c = 0 by omega, lm_zero, List.append_nil] at hp2
          exact Fin.mk F4 (newInts_of N4 (.head _) (hp2 ▸ hp1))
theorem plain_of_does (W : Wd) (la : Addr) (va : List Value) (x w : Int) (u : Tok) (H : Heap) (hla : H.IsList la va.toArray) (hia : IntsAre va (lm w x)) (hx : 0 ≤ x) (hw : 2 ≤ w) (hw9 : w ≤ 9)
    (hna : (lm w x).length < 1048576) : Does W 1 8 100 [.ref la, .int w u] H (fun _ v => ∃ t, v = .int x t) := by
  w_top off
  refine fill _ W.w ?_
  k_fill
  intro _
  refine' Does.enter (binds := [(PySem.Str.ofString "a", .ref la), (PySem.Str.ofString "w", .int w u)]) ?k6 ?k7 ?k9 ?kB ?_ ?c2 ?c3 ?c4 ?c5
  case k6 => k_is
  case k7 => k_is
  case k9 => (intro _; exact BindsTo.of_eq rfl)
  case c5 => decide
  case kB => exact locs rfl
  case c2 => exact rfl
  case c3 => exact rfl
  case c4 => exact rfl
  k_whole
  intro dp un gd fr base s0 L h1 hL hs X T B F N hd hu
  (try dsimp only [Nat.zero_add, Nat.reduceAdd] at hd hu)
  try dsimp only
  replace F : Fr H L h1 (fun y => if y = PySem.Str.ofString "w" then some (.int w u) else if y = PySem.Str.ofString "a" then some (.ref la) else none) := F
  (try k_fold)
  k_steps
  rename_i D ws h2 F2 N2 hI hC l1
  unfold Hold
  refine' for_listL (σ := Int × Tok) (fun m c y => if y = Str.ofString "found" then some (.int c.1 c.2) else m y)
    (fun l c => [(l, PySem.W.listOf ws.toArray 0)]) (fun i c => c.1 = x / (2 ^ w.toNat) ^ ((lm w x).length - i)) (fun l => [l]) D (0, _) rfl hI F2 N2 ?hm ?hN ?hlc ?ha ?hp ?turn ?done
  case hm => (intro y hyx; (try dsimp only); by_cases h0 : y = Str.ofString "found"; (case pos => first | exact (if_pos h0).trans (if_pos h0).symm | (subst h0; with_unfolding_all exact rfl) | (simp only [if_neg hyx, if_pos h0]; done) | (simp only [if_neg hyx, if_pos h0]; rfl) | (subst h0; with_unfolding_all exact rfl)); (case neg => (first | rfl | ((repeat refine (if_neg (by assumption)).trans ?_); (repeat refine Eq.trans ?_ (if_neg (by assumption)).symm); done) | ((repeat refine (if_neg (by assumption)).trans ?_); (repeat refine Eq.trans ?_ (if_neg (by assumption)).symm); with_reducible rfl) | (simp only [if_neg hyx, if_neg h0]; done) | (simp only [if_neg hyx, if_neg h0]; rfl))))
  case hN => (first | exact List.forall_mem_nil _ | exact List.forall_mem_cons.mpr ⟨by k_mem, List.forall_mem_nil _⟩ | exact List.forall_mem_cons.mpr ⟨by k_mem, List.forall_mem_cons.mpr ⟨by k_mem, List.forall_mem_nil _⟩⟩ | exact List.forall_mem_cons.mpr ⟨by k_mem, List.forall_mem_cons.mpr ⟨by k_mem, List.forall_mem_cons.mpr ⟨by k_mem, List.forall_mem_nil _⟩⟩⟩)
  case hlc => (intro c; exact .head _)
  case ha => (intro c; rfl)
  case hp => exact (lm_len_div (by omega) hx).symm
  case turn =>
    refine pr2 (fun c tc => ?_)
    intro i d td h3 tk3 own K hK hi hc hoff F3 N3
    dsimp only at *
    (try k_fold)
    have hB := pow_le_512 hw9
    obtain ⟨hil, hd0, hdB, hst⟩ := lm_rev (by omega) hx hi
    have hc0 : 0 ≤ c := by rw [hc]; exact Int.ediv_nonneg hx (Int.pow_nonneg (Int.le_of_lt (two_pow_pos _)))
    have hcx : c ≤ x := by rw [hc]; exact div_le hx (Int.le_of_lt_add_one (by have := two_le_powI (w := w) (by omega); omega))
    have hsz := shift_fits (w := w) (by omega) hw9 hc0 hcx hna
    k_steps
    (rename Fr _ _ _ _ => F4); (rename News _ _ _ _ => N4)
    (simp only [List.push_toArray, List.cons_append, List.nil_append] at N4)
    refine' hK _ _ (FPost.next (_, _) F4 N4 ?ke ?kn ?ko ?kp)
    case ke => (intro y hyx; (try dsimp only); by_cases h0 : y = Str.ofString "found"; (case pos => first | exact (if_pos h0).trans (if_pos h0).symm | (subst h0; with_unfolding_all exact rfl) | (simp only [if_neg hyx, if_pos h0]; done) | (simp only [if_neg hyx, if_pos h0]; rfl) | (subst h0; with_unfolding_all exact rfl)); (case neg => (first | rfl | ((repeat refine (if_neg (by assumption)).trans ?_); (repeat refine Eq.trans ?_ (if_neg (by assumption)).symm); done) | ((repeat refine (if_neg (by assumption)).trans ?_); (repeat refine Eq.trans ?_ (if_neg (by assumption)).symm); with_reducible rfl) | (simp only [if_neg hyx, if_neg h0]; done) | (simp only [if_neg hyx, if_neg h0]; rfl))))
    case kn => (first | exact List.forall_mem_nil _ | exact List.forall_mem_cons.mpr ⟨by k_mem, List.forall_mem_nil _⟩ | exact List.forall_mem_cons.mpr ⟨by k_mem, List.forall_mem_cons.mpr ⟨by k_mem, List.forall_mem_nil _⟩⟩ | exact List.forall_mem_cons.mpr ⟨by k_mem, List.forall_mem_cons.mpr ⟨by k_mem, List.forall_mem_cons.mpr ⟨by k_mem, List.forall_mem_nil _⟩⟩⟩)
    case ko => exact fun p hp => List.mem_cons_of_mem _ hp
    case kp =>
      dsimp only
      rw [hst, ← hc]
  case done =>
    refine pr2 (fun c tc => ?_)
    intro v h3 tk3 hc F3 N3
    dsimp only at *
    (try k_fold)
    k_steps
    (rename Fr _ _ _ _ => F4); (rename News _ _ _ _ => N4)
    rw [List.length_reverse, Nat.sub_self, Int.pow_zero, Int.ediv_one] at hc
    subst hc
    exact Fin.mk F4 ⟨_, rfl⟩
theorem law_number_does (W : Wd) (la : Addr) (va : List Value) (x w : Int) (u : Tok) (H : Heap) (hla : H.IsList la va.toArray) (hia : IntsAre va (lm w x)) (hx : 0 ≤ x) (hw : 2 ≤ w) (hw9 : w ≤ 9)
    (hna : (lm w x).length < 1048576) : Does W 1 8 198 [.ref la, .int w u] H (fun _ v => ∃ t, v = .int x t) := by
  w_top off
  refine fill _ W.w ?_
  k_fill
  intro _
  refine' Does.enter (binds := [(PySem.Str.ofString "a", .ref la), (PySem.Str.ofString "w", .int w u)]) ?k6 ?k7 ?k9 ?kB ?_ ?c2 ?c3 ?c4 ?c5
  case k6 => k_is
  case k7 => k_is
  case k9 => (intro _; exact BindsTo.of_eq rfl)
  case c5 => decide
  case kB => exact locs rfl
  case c2 => exact rfl
  case c3 => exact rfl
  case c4 => exact rfl
  k_whole
  intro dp un gd fr base s0 L h1 hL hs X T B F N hd hu
  (try dsimp only [Nat.zero_add, Nat.reduceAdd] at hd hu)
  try dsimp only
  replace F : Fr H L h1 (fun y => if y = PySem.Str.ofString "w" then some (.int w u) else if y = PySem.Str.ofString "a" then some (.ref la) else none) := F
  (try k_fold)
  k_steps
  rename_i D ws h2 F2 N2 hI hC l1
  unfold Hold
  refine' for_listL (σ := Int × Tok) (fun m c y => if y = Str.ofString "found" then some (.int c.1 c.2) else m y)
    (fun l c => [(l, PySem.W.listOf ws.toArray 0)]) (fun i c => c.1 = x / (2 ^ w.toNat) ^ ((lm w x).length - i)) (fun l => [l]) D (0, _) rfl hI F2 N2 ?hm ?hN ?hlc ?ha ?hp ?turn ?done
  case hm => (intro y hyx; (try dsimp only); by_cases h0 : y = Str.ofString "found"; (case pos => first | exact (if_pos h0).trans (if_pos h0).symm | (subst h0; with_unfolding_all exact rfl) | (simp only [if_neg hyx, if_pos h0]; done) | (simp only [if_neg hyx, if_pos h0]; rfl) | (subst h0; with_unfolding_all exact rfl)); (case neg => (first | rfl | ((repeat refine (if_neg (by assumption)).trans ?_); (repeat refine Eq.trans ?_ (if_neg (by assumption)).symm); done) | ((repeat refine (if_neg (by assumption)).trans ?_); (repeat refine Eq.trans ?_ (if_neg (by assumption)).symm); with_reducible rfl) | (simp only [if_neg hyx, if_neg h0]; done) | (simp only [if_neg hyx, if_neg h0]; rfl))))
  case hN => (first | exact List.forall_mem_nil _ | exact List.forall_mem_cons.mpr ⟨by k_mem, List.forall_mem_nil _⟩ | exact List.forall_mem_cons.mpr ⟨by k_mem, List.forall_mem_cons.mpr ⟨by k_mem, List.forall_mem_nil _⟩⟩ | exact List.forall_mem_cons.mpr ⟨by k_mem, List.forall_mem_cons.mpr ⟨by k_mem, List.forall_mem_cons.mpr ⟨by k_mem, List.forall_mem_nil _⟩⟩⟩)
  case hlc => (intro c; exact .head _)
  case ha => (intro c; rfl)
  case hp => exact (lm_len_div (by omega) hx).symm
  case turn =>
    refine pr2 (fun c tc => ?_)
    intro i d td h3 tk3 own K hK hi hc hoff F3 N3
    dsimp only at *
    (try k_fold)
    have hB := pow_le_512 hw9
    obtain ⟨hil, hd0, hdB, hst⟩ := lm_rev (by omega) hx hi
    have hc0 : 0 ≤ c := by rw [hc]; exact Int.ediv_nonneg hx (Int.pow_nonneg (Int.le_of_lt (two_pow_pos _)))
    have hcx : c ≤ x := by rw [hc]; exact div_le hx (Int.le_of_lt_add_one (by have := two_le_powI (w := w) (by omega); omega))
    have hsz := shift_fits (w := w) (by omega) hw9 hc0 hcx hna
    have hdB' : d < 1 * 2 ^ w.toNat := by omega
    k_steps
    (rename Fr _ _ _ _ => F4); (rename News _ _ _ _ => N4)
    (simp only [List.push_toArray, List.cons_append, List.nil_append] at N4)
    refine' hK _ _ (FPost.next (_, _) F4 N4 ?ke ?kn ?ko ?kp)
    case ke => (intro y hyx; (try dsimp only); by_cases h0 : y = Str.ofString "found"; (case pos => first | exact (if_pos h0).trans (if_pos h0).symm | (subst h0; with_unfolding_all exact rfl) | (simp only [if_neg hyx, if_pos h0]; done) | (simp only [if_neg hyx, if_pos h0]; rfl) | (subst h0; with_unfolding_all exact rfl)); (case neg => (first | rfl | ((repeat refine (if_neg (by assumption)).trans ?_); (repeat refine Eq.trans ?_ (if_neg (by assumption)).symm); done) | ((repeat refine (if_neg (by assumption)).trans ?_); (repeat refine Eq.trans ?_ (if_neg (by assumption)).symm); with_reducible rfl) | (simp only [if_neg hyx, if_neg h0]; done) | (simp only [if_neg hyx, if_neg h0]; rfl))))
    case kn => (first | exact List.forall_mem_nil _ | exact List.forall_mem_cons.mpr ⟨by k_mem, List.forall_mem_nil _⟩ | exact List.forall_mem_cons.mpr ⟨by k_mem, List.forall_mem_cons.mpr ⟨by k_mem, List.forall_mem_nil _⟩⟩ | exact List.forall_mem_cons.mpr ⟨by k_mem, List.forall_mem_cons.mpr ⟨by k_mem, List.forall_mem_cons.mpr ⟨by k_mem, List.forall_mem_nil _⟩⟩⟩)
    case ko => exact fun p hp => List.mem_cons_of_mem _ hp
    case kp =>
      dsimp only
      rw [hst, ← hc]
  case done =>
    refine pr2 (fun c tc => ?_)
    intro v h3 tk3 hc F3 N3
    dsimp only at *
    (try k_fold)
    rw [List.length_reverse, Nat.sub_self, Int.pow_zero, Int.ediv_one] at hc
    subst hc
    k_steps
    · exfalso
      rename _ = (0 : Int) => hz
      have hl0 : 0 < (lm w c).length := by omega
      have e : (-1 + ((lm w c).length : Int)).toNat = (lm w c).length - 1 := by omega
      rw [e] at hz
      exact lm_last (by omega) hx hl0 hz
    · (rename Fr _ _ _ _ => F4)
      exact Fin.mk F4 ⟨_, rfl⟩
    · (rename Fr _ _ _ _ => F4)
      exact Fin.mk F4 ⟨_, rfl⟩
theorem normal_does (W : Wd) (la : Addr) (va : List Value) (as : List Int) (H : Heap) (hla : H.IsList la va.toArray) (hia : IntsAre va as) (hna : as.length < 1048576) :
    Does W 1 8 58 [.ref la] H (fun h' v => NewInts H h' (strip0 as) v) := by
  w_top off
  refine fill _ W.w ?_
  k_fill
  intro _
  refine' Does.enter (binds := [(PySem.Str.ofString "a", .ref la)]) ?k6 ?k7 ?k9 ?kB ?_ ?c2 ?c3 ?c4 ?c5
  case k6 => k_is
  case k7 => k_is
  case k9 => (intro _; exact BindsTo.of_eq rfl)
  case c5 => decide
  case kB => exact locs rfl
  case c2 => exact rfl
  case c3 => exact rfl
  case c4 => exact rfl
  k_whole
  intro dp un gd fr base s0 L h1 hL hs X T B F N hd hu
  (try dsimp only [Nat.zero_add, Nat.reduceAdd] at hd hu)
  try dsimp only
  replace F : Fr H L h1 (fun y => if y = PySem.Str.ofString "a" then some (.ref la) else none) := F
  (try k_fold)
  k_steps
  unfold Hold
  refine' while_rule (σ := Int × Tok) (fun m c y => if y = Str.ofString "end" then some (.int c.1 c.2) else m y)
    (fun l c => []) (fun c => 0 ≤ c.1 ∧ c.1 ≤ (as.length : Int) ∧ strip0 (as.take c.1.toNat) = strip0 as) (fun c => c.1.toNat) 0 ((as.length : Int), _) ?F ?N ?hm ?hN ?hp ?turn PassesOwn.never
  case F => assumption
  case N => assumption
  case hm => (intro y; (try dsimp only); by_cases h0 : y = Str.ofString "end"; (case pos => first | exact (if_pos h0).trans (if_pos h0).symm | (subst h0; with_unfolding_all exact rfl) | (simp only [if_pos h0]; done) | (simp only [if_pos h0]; rfl) | (subst h0; with_unfolding_all exact rfl)); (case neg => (first | rfl | ((repeat refine (if_neg (by assumption)).trans ?_); (repeat refine Eq.trans ?_ (if_neg (by assumption)).symm); done) | ((repeat refine (if_neg (by assumption)).trans ?_); (repeat refine Eq.trans ?_ (if_neg (by assumption)).symm); with_reducible rfl) | (simp only [if_neg h0]; done) | (simp only [if_neg h0]; rfl))))
  case hN => (first | exact List.forall_mem_nil _ | exact List.forall_mem_cons.mpr ⟨by k_mem, List.forall_mem_nil _⟩ | exact List.forall_mem_cons.mpr ⟨by k_mem, List.forall_mem_cons.mpr ⟨by k_mem, List.forall_mem_nil _⟩⟩ | exact List.forall_mem_cons.mpr ⟨by k_mem, List.forall_mem_cons.mpr ⟨by k_mem, List.forall_mem_cons.mpr ⟨by k_mem, List.forall_mem_nil _⟩⟩⟩)
  case hp => exact ⟨by omega, Int.le_refl _, by rw [Int.toNat_natCast, List.take_length]⟩
  case turn =>
    refine pr2 (fun e te => ?_)
    intro h3 tk3 K hK
    refine an3 (fun hp0 hp1 hp2 => ?_)
    intro F3 N3
    dsimp only at *
    (try k_fold)
    k_steps
    · (rename Fr _ _ _ _ => F4); (rename News _ _ _ _ => N4); (rename 0 < e => hpos); (rename _ = (0 : Int) => hz)
      refine' hK _ _ (WPost.next (_, _) F4 N4 ?ke ?kn ?kp ?km)
      case ke => (intro y; (try dsimp only); by_cases h0 : y = Str.ofString "end"; (case pos => first | exact (if_pos h0).trans (if_pos h0).symm | (subst h0; with_unfolding_all exact rfl) | (simp only [if_pos h0]; done) | (simp only [if_pos h0]; rfl) | (subst h0; with_unfolding_all exact rfl)); (case neg => (first | rfl | ((repeat refine (if_neg (by assumption)).trans ?_); (repeat refine Eq.trans ?_ (if_neg (by assumption)).symm); done) | ((repeat refine (if_neg (by assumption)).trans ?_); (repeat refine Eq.trans ?_ (if_neg (by assumption)).symm); with_reducible rfl) | (simp only [if_neg h0]; done) | (simp only [if_neg h0]; rfl))))
      case kn => (first | exact List.forall_mem_nil _ | exact List.forall_mem_cons.mpr ⟨by k_mem, List.forall_mem_nil _⟩ | exact List.forall_mem_cons.mpr ⟨by k_mem, List.forall_mem_cons.mpr ⟨by k_mem, List.forall_mem_nil _⟩⟩ | exact List.forall_mem_cons.mpr ⟨by k_mem, List.forall_mem_cons.mpr ⟨by k_mem, List.forall_mem_cons.mpr ⟨by k_mem, List.forall_mem_nil _⟩⟩⟩)
      case kp =>
        dsimp only
        refine ⟨by omega, by omega, ?_⟩
        rw [take_last as (by omega) (by omega), show e.toNat - 1 = (e - 1).toNat by omega, hz, strip0_zero] at hp2
        exact hp2
      case km => (dsimp only; omega)
    · (rename Fr _ _ _ _ => F4); (rename News _ _ _ _ => N4); (rename 0 < e => hpos); (rename IntsAre _ (List.take _ _) => hI); (rename _ ≠ (0 : Int) => hz)
      have h9 := take_last as (e := e.toNat) (by omega) (by omega)
      rw [h9, show e.toNat - 1 = (e - 1).toNat by omega, strip0_ne _ hz, show (e - 1).toNat = e.toNat - 1 by omega] at hp2
      rw [← h9] at hp2
      exact Fin.mk F4 (newInts_of N4 (.head _) (hp2 ▸ hI))
    · (rename Fr _ _ _ _ => F4); (rename News _ _ _ _ => N4); (rename IntsAre _ (List.take _ _) => hI)
      rw [show e.toNat = 0 by omega, List.take_zero] at hp2 hI
      exact Fin.mk F4 (newInts_of N4 (.head _) (hp2 ▸ hI))
theorem compare_does (W : Wd) (la lb : Addr) (va vb : List Value) (x y w : Int) (H : Heap) (hla : H.IsList la va.toArray) (hia : IntsAre va (lm w x)) (hlb : H.IsList lb vb.toArray) (hib : IntsAre vb (lm w y)) (hx : 0 ≤ x) (hy : 0 ≤ y) (hw : 2 ≤ w)
    (hna : (lm w x).length < 1048576) (hnb : (lm w y).length < 1048576) : Does W 1 8 72 [.ref la, .ref lb] H (fun _ v => ∃ t, v = .int (cmpI x y) t) := by
  w_top off
  refine fill _ W.w ?_
  k_fill
  intro _
  refine' Does.enter (binds := [(PySem.Str.ofString "a", .ref la), (PySem.Str.ofString "b", .ref lb)]) ?k6 ?k7 ?k9 ?kB ?_ ?c2 ?c3 ?c4 ?c5
  case k6 => k_is
  case k7 => k_is
  case k9 => (intro _; exact BindsTo.of_eq rfl)
  case c5 => decide
  case kB => exact locs rfl
  case c2 => exact rfl
  case c3 => exact rfl
  case c4 => exact rfl
  k_whole
  intro dp un gd fr base s0 L h1 hL hs X T B F N hd hu
  (try dsimp only [Nat.zero_add, Nat.reduceAdd] at hd hu)
  try dsimp only
  replace F : Fr H L h1 (fun y => if y = PySem.Str.ofString "b" then some (.ref lb) else if y = PySem.Str.ofString "a" then some (.ref la) else none) := F
  (try k_fold)
  k_steps
  · rw [cmp_len_lt (w := w) (by omega) hx hy (by omega)]
    exact Fin.mk F ⟨_, rfl⟩
  · rw [cmp_len_gt (w := w) (by omega) hx hy (by omega)]
    exact Fin.mk F ⟨_, rfl⟩
  unfold Hold
  have hl : (lm w x).length = (lm w y).length := by omega
  refine' for_down (σ := Unit) (fun m c y => m y)
      (fun l c => []) (fun i c => (lm w x).drop ((lm w x).length - i) = (lm w y).drop ((lm w x).length - i)) (fun l => []) 0 () rfl (by assumption) (by omega) (by omega) ?F ?N ?hm ?hN ?ha ?hp ?turn ?done
  case F => assumption
  case N => assumption
  case hm => (intro y _; rfl)
  case hN => (first | exact List.forall_mem_nil _ | exact List.forall_mem_cons.mpr ⟨by k_mem, List.forall_mem_nil _⟩ | exact List.forall_mem_cons.mpr ⟨by k_mem, List.forall_mem_cons.mpr ⟨by k_mem, List.forall_mem_nil _⟩⟩ | exact List.forall_mem_cons.mpr ⟨by k_mem, List.forall_mem_cons.mpr ⟨by k_mem, List.forall_mem_cons.mpr ⟨by k_mem, List.forall_mem_nil _⟩⟩⟩)
  case ha => (intro c; rfl)
  case hp => (rw [Nat.sub_zero, List.drop_length, hl, List.drop_length])
  case turn =>
    intro c i td h3 tk3 own K hK hi hd hoff F3 N3
    dsimp only at *
    (try k_fold)
    have hix : (((lm w x).length : Int) - 1 - (i : Int)) = (((lm w x).length - (i + 1) : Nat) : Int) := by omega
    rw [hix] at F3
    have hj : (lm w x).length - i = ((lm w x).length - (i + 1)) + 1 := by omega
    have hj0 : (lm w x).length - (i + 1) < (lm w x).length := by omega
    rw [hj] at hd
    generalize (lm w x).length - (i + 1) = j at *
    have hj1 : j + 1 ≤ (lm w x).length := by omega
    k_steps
    · (rename (lm w x).getD _ 0 ≠ _ => hne); (rename (lm w x).getD _ 0 < _ => hlt)
      rw [Int.toNat_natCast] at hne hlt
      refine hK _ _ ?_
      show Fin H s0 (fun _ v => ∃ t, v = .int (cmpI x y) t) _ _
      rw [cmp_at (by omega) hx hy hl hj1 hd hne, if_pos hlt]
      exact Fin.mk F3 ⟨_, rfl⟩
    · (rename (lm w x).getD _ 0 ≠ _ => hne); (rename ¬ (lm w x).getD _ 0 < _ => hlt)
      rw [Int.toNat_natCast] at hne hlt
      refine hK _ _ ?_
      show Fin H s0 (fun _ v => ∃ t, v = .int (cmpI x y) t) _ _
      rw [cmp_at (by omega) hx hy hl hj1 hd hne, if_neg hlt]
      exact Fin.mk F3 ⟨_, rfl⟩
    · (rename (lm w x).getD _ 0 = _ => heq)
      rw [Int.toNat_natCast] at heq
      refine' hK _ _ (FPost.next () F3 N3 ?ke ?kn ?ko ?kp)
      case ke => (intro y hyx; simp only [if_neg hyx])
      case kn => (first | exact List.forall_mem_nil _ | exact List.forall_mem_cons.mpr ⟨by k_mem, List.forall_mem_nil _⟩ | exact List.forall_mem_cons.mpr ⟨by k_mem, List.forall_mem_cons.mpr ⟨by k_mem, List.forall_mem_nil _⟩⟩ | exact List.forall_mem_cons.mpr ⟨by k_mem, List.forall_mem_cons.mpr ⟨by k_mem, List.forall_mem_cons.mpr ⟨by k_mem, List.forall_mem_nil _⟩⟩⟩)
      case ko => exact fun p hp => hp
      case kp => exact drop_step hl hj0 hd heq
  case done =>
    intro c v h3 tk3 hd F3 N3
    dsimp only at *
    (try k_fold)
    rw [show (lm w x).length - (((lm w x).length : Int) - 1 + 1).toNat = 0 by omega, List.drop_zero, List.drop_zero] at hd
    k_steps
    rw [cmp_eq (lm_inj (by omega) hx hy hd)]
    exact Fin.mk F3 ⟨_, rfl⟩
theorem divrem_limb_does (W : Wd) (la : Addr) (va : List Value) (x k w : Int) (t u : Tok) (H : Heap) (hla : H.IsList la va.toArray) (hia : IntsAre va (lm w x)) (hx : 0 ≤ x) (hk : 0 < k) (hkB : k < 2 ^ w.toNat) (hw : 2 ≤ w) (hw9 : w ≤ 9)
    (hna : (lm w x).length < 1048576) : Does W 2 16 93 [.ref la, .int k t, .int w u] H (fun h' v => NewPair H h' (lm w (x / k)) (x % k) v) := by
  w_top off
  refine fill _ W.w ?_
  k_fill
  intro _
  refine' Does.enter (binds := [(PySem.Str.ofString "a", .ref la), (PySem.Str.ofString "limb", .int k t), (PySem.Str.ofString "w", .int w u)]) ?k6 ?k7 ?k9 ?kB ?_ ?c2 ?c3 ?c4 ?c5
  case k6 => k_is
  case k7 => k_is
  case k9 => (intro _; exact BindsTo.of_eq rfl)
  case c5 => decide
  case kB => exact locs rfl
  case c2 => exact rfl
  case c3 => exact rfl
  case c4 => exact rfl
  k_whole
  intro dp un gd fr base s0 L h1 hL hs X T B F N hd hu
  (try dsimp only [Nat.zero_add, Nat.reduceAdd] at hd hu)
  try dsimp only
  replace F : Fr H L h1 (fun y => if y = PySem.Str.ofString "w" then some (.int w u) else if y = PySem.Str.ofString "limb" then some (.int k t) else if y = PySem.Str.ofString "a" then some (.ref la) else none) := F
  (try k_fold)
  k_steps
  unfold Hold
  refine' for_down (σ := Int × Tok × List Value × List Int × Nat) (fun m c y => if y = Str.ofString "rest" then some (.int c.1 c.2.1) else m y)
    (fun l c => [(l, PySem.W.listOf c.2.2.1.toArray c.2.2.2.2)]) (fun i c => IntsAre c.2.2.1 c.2.2.2.1 ∧ c.1 = (x / (2 ^ w.toNat) ^ ((lm w x).length - i)) % k ∧ c.2.2.2.1 = List.replicate ((lm w x).length - i) 0 ++ digs (2 ^ w.toNat) i (x / (2 ^ w.toNat) ^ ((lm w x).length - i) / k)) (fun l => [l]) _ (0, _, _, List.replicate (lm w x).length 0, _) rfl (by assumption) (by omega) (by omega) ?F ?N ?hm ?hN ?ha ?hp ?turn ?done
  case F => assumption
  case N => assumption
  case hm => (intro y hyx; (try dsimp only); by_cases h0 : y = Str.ofString "rest"; (case pos => first | exact (if_pos h0).trans (if_pos h0).symm | (subst h0; with_unfolding_all exact rfl) | (simp only [if_neg hyx, if_pos h0]; done) | (simp only [if_neg hyx, if_pos h0]; rfl) | (subst h0; with_unfolding_all exact rfl)); (case neg => (first | rfl | ((repeat refine (if_neg (by assumption)).trans ?_); (repeat refine Eq.trans ?_ (if_neg (by assumption)).symm); done) | ((repeat refine (if_neg (by assumption)).trans ?_); (repeat refine Eq.trans ?_ (if_neg (by assumption)).symm); with_reducible rfl) | (simp only [if_neg hyx, if_neg h0]; done) | (simp only [if_neg hyx, if_neg h0]; rfl))))
  case hN => (first | exact List.forall_mem_nil _ | exact List.forall_mem_cons.mpr ⟨by k_mem, List.forall_mem_nil _⟩ | exact List.forall_mem_cons.mpr ⟨by k_mem, List.forall_mem_cons.mpr ⟨by k_mem, List.forall_mem_nil _⟩⟩ | exact List.forall_mem_cons.mpr ⟨by k_mem, List.forall_mem_cons.mpr ⟨by k_mem, List.forall_mem_cons.mpr ⟨by k_mem, List.forall_mem_nil _⟩⟩⟩)
  case ha => (intro c; rfl)
  case hp =>
    (rename IntsAre _ _ => hI9)
    rw [flat_rep, Int.toNat_natCast] at hI9
    dsimp only
    rw [Nat.sub_zero, lm_len_div (by omega) hx]
    exact ⟨by rw [Int.toNat_natCast]; exact hI9, (Int.zero_emod _).symm, by rw [digs, List.append_nil]⟩
  case turn =>
    refine pr5 (fun c tc vs ns n => ?_)
    intro i td h3 tk3 own K hK hi
    refine an3 (fun hp1 hc hp2 => ?_)
    intro hoff F3 N3
    dsimp only at *
    (try k_fold)
    have hB := pow_le_512 hw9
    have hB2 := two_le_powI (w := w) (by omega)
    have hk512 : k < 512 := by omega
    have hix : (((lm w x).length : Int) - 1 - (i : Int)) = (((lm w x).length - (i + 1) : Nat) : Int) := by omega
    rw [hix] at F3
    have hj : (lm w x).length - i = ((lm w x).length - (i + 1)) + 1 := by omega
    have hj0 : (lm w x).length - (i + 1) < (lm w x).length := by omega
    rw [hj] at hc hp2
    generalize (lm w x).length - (i + 1) = j at *
    have hit := lm_item (by omega) hx hj0
    have hd0 := Int.emod_nonneg (x / (2 ^ w.toNat) ^ j) (show (2 : Int) ^ w.toNat ≠ 0 by omega)
    have hdB := Int.emod_lt_of_pos (x / (2 ^ w.toNat) ^ j) (show 0 < (2 : Int) ^ w.toNat by omega)
    rw [← hit.2.1] at hd0 hdB
    have hc0 : 0 ≤ c := by rw [hc]; exact Int.emod_nonneg _ (by omega)
    have hck : c < k := by rw [hc]; exact Int.emod_lt_of_pos _ hk
    have hc64 : c.natAbs < 2 ^ 64 := by omega
    have hnl : ns.length = (lm w x).length := by rw [hp2, List.length_append, List.length_replicate, digs_length]; omega
    have hvl : vs.length = (lm w x).length := by rw [hp1.length, hnl]
    k_steps
    (rename Fr _ _ _ _ => F4); (rename News _ _ _ _ => N4)
    (simp only [List.push_toArray, List.cons_append, List.nil_append] at N4)
    rw [Int.toNat_natCast] at F4 N4
    have hor := bitOr_shift (k := w.toNat) hc0 hd0 hdB
    have hst := div_step (X := x / (2 ^ w.toNat) ^ (j + 1)) (B := 2 ^ w.toNat) hB2 hk hd0 hdB
    have hps := pow_step (w := w) (x := x) (by omega) j
    rw [← hit.2.1] at hps
    rw [← hps, ← hc, ← hor] at hst
    refine' hK _ _ (FPost.next (_, _, _, ns.set j ((Builtin.bitOr (c * 2 ^ w.toNat) ((lm w x).getD j 0)).fdiv k), _) F4 N4 ?ke ?kn ?ko ?kp)
    case ke => (intro y hyx; (try dsimp only); by_cases h0 : y = Str.ofString "rest"; (case pos => first | exact (if_pos h0).trans (if_pos h0).symm | (subst h0; with_unfolding_all exact rfl) | (simp only [if_neg hyx, if_pos h0]; done) | (simp only [if_neg hyx, if_pos h0]; rfl) | (subst h0; with_unfolding_all exact rfl)); (case neg => (first | rfl | ((repeat refine (if_neg (by assumption)).trans ?_); (repeat refine Eq.trans ?_ (if_neg (by assumption)).symm); done) | ((repeat refine (if_neg (by assumption)).trans ?_); (repeat refine Eq.trans ?_ (if_neg (by assumption)).symm); with_reducible rfl) | (simp only [if_neg hyx, if_neg h0]; done) | (simp only [if_neg hyx, if_neg h0]; rfl))))
    case kn => (first | exact List.forall_mem_nil _ | exact List.forall_mem_cons.mpr ⟨by k_mem, List.forall_mem_nil _⟩ | exact List.forall_mem_cons.mpr ⟨by k_mem, List.forall_mem_cons.mpr ⟨by k_mem, List.forall_mem_nil _⟩⟩ | exact List.forall_mem_cons.mpr ⟨by k_mem, List.forall_mem_cons.mpr ⟨by k_mem, List.forall_mem_cons.mpr ⟨by k_mem, List.forall_mem_nil _⟩⟩⟩)
    case ko => exact fun p hp => List.mem_cons_of_mem _ hp
    case kp =>
      dsimp only
      refine ⟨ints_set hp1 _, ?_, ?_⟩
      · rw [Int.fmod_eq_emod_of_nonneg _ (by omega), hst.2.2.2]
      · rw [hp2, rep_set, Int.fdiv_eq_ediv_of_nonneg _ (by omega), hst.2.2.1, digs_step hB2 hst.1 hst.2.1]
  case done =>
    refine pr5 (fun c tc vs ns n => ?_)
    intro v h3 tk3
    refine an3 (fun hp1 hc hp2 => ?_)
    intro F3 N3
    dsimp only at *
    (try k_fold)
    have hz9 : (((lm w x).length : Int) - 1 + 1).toNat = (lm w x).length := by omega
    rw [hz9, Nat.sub_self, Int.pow_zero, Int.ediv_one] at hc hp2
    rw [List.replicate_zero, List.nil_append] at hp2
    have hq0 : 0 ≤ x / k := Int.ediv_nonneg hx (by omega)
    have hq : x / k < (2 ^ w.toNat) ^ (lm w x).length := by
      have := lm_lt (w := w) (x := x) (by omega) hx
      have := Int.ediv_le_self (a := x) k hx
      omega
    have hst := strip0_digs (w := w) (by omega) _ _ hq0 hq
    rw [← hp2] at hst
    have hnl : ns.length = (lm w x).length := by rw [hp2, digs_length]
    k_steps
    unfold Hold
    refine Does.useL F3 N3 B X T rfl rfl (normal_does W _ vs ns _ (News.isList N3 (.head _)) hp1 (by omega)) (by show dp + 1 + 1 < recursionLimit; omega) (by show un + 3 + 8 < cLine; omega) ?_
    intro l its n' h5 tk5 F5 N5 hne hi5
    rw [hst] at hi5
    k_steps
    (rename Fr _ _ _ _ => F6); (rename News _ _ _ _ => N6)
    subst hc
    exact Fin.mk F6 (newPair_of N6 (.head _) (.tail _ (.head _)) hi5)
theorem law_digits_does (W : Wd) (x b : Int) (t u : Tok) (hx : 0 ≤ x) (hb : 2 ≤ b) (hb9 : b ≤ 70) (hlen : (dig b.toNat x.toNat).length < 1048576) (H : Heap) : Does W 1 8 226 [.int x t, .int b u] H (fun h' v => NewInts H h' (dig b.toNat x.toNat).reverse v) := by
  w_top off
  refine fill _ W.w ?_
  k_fill
  intro _
  refine' Does.enter (binds := [(PySem.Str.ofString "n", .int x t), (PySem.Str.ofString "base", .int b u)]) ?k6 ?k7 ?k9 ?kB ?_ ?c2 ?c3 ?c4 ?c5
  case k6 => k_is
  case k7 => k_is
  case k9 => (intro _; exact BindsTo.of_eq rfl)
  case c5 => decide
  case kB => exact locs rfl
  case c2 => exact rfl
  case c3 => exact rfl
  case c4 => exact rfl
  k_whole
  intro dp un gd fr base s0 L h1 hL hs X T B F N hd hu
  (try dsimp only [Nat.zero_add, Nat.reduceAdd] at hd hu)
  try dsimp only
  replace F : Fr H L h1 (fun y => if y = PySem.Str.ofString "base" then some (.int b u) else if y = PySem.Str.ofString "n" then some (.int x t) else none) := F
  (try k_fold)
  k_steps
  unfold Hold
  refine' while_rule (σ := Int × Tok × List Value × List Int × Nat) (fun m c y => if y = Str.ofString "n" then some (.int c.1 c.2.1) else m y)
    (fun l c => [(l, PySem.W.listOf c.2.2.1.toArray c.2.2.2.2)]) (fun c => 0 ≤ c.1 ∧ IntsAre c.2.2.1 c.2.2.2.1 ∧ c.2.2.2.1 ++ dig b.toNat c.1.toNat = dig b.toNat x.toNat) (fun c => c.1.toNat) _ (x, _, [], [], 0) ?F ?N ?hm ?hN ?hp ?turn PassesOwn.never
  case F => assumption
  case N => assumption
  case hm => (intro y; (try dsimp only); by_cases h0 : y = Str.ofString "n"; (case pos => first | exact (if_pos h0).trans (if_pos h0).symm | (subst h0; with_unfolding_all exact rfl) | (simp only [if_pos h0]; done) | (simp only [if_pos h0]; rfl) | (subst h0; with_unfolding_all exact rfl)); (case neg => (first | rfl | ((repeat refine (if_neg (by assumption)).trans ?_); (repeat refine Eq.trans ?_ (if_neg (by assumption)).symm); done) | ((repeat refine (if_neg (by assumption)).trans ?_); (repeat refine Eq.trans ?_ (if_neg (by assumption)).symm); with_reducible rfl) | (simp only [if_neg h0]; done) | (simp only [if_neg h0]; rfl))))
  case hN => (first | exact List.forall_mem_nil _ | exact List.forall_mem_cons.mpr ⟨by k_mem, List.forall_mem_nil _⟩ | exact List.forall_mem_cons.mpr ⟨by k_mem, List.forall_mem_cons.mpr ⟨by k_mem, List.forall_mem_nil _⟩⟩ | exact List.forall_mem_cons.mpr ⟨by k_mem, List.forall_mem_cons.mpr ⟨by k_mem, List.forall_mem_cons.mpr ⟨by k_mem, List.forall_mem_nil _⟩⟩⟩)
  case hp => exact ⟨hx, .nil, rfl⟩
  case turn =>
    refine pr5 (fun num tn vs ns n => ?_)
    intro h3 tk3 K hK
    refine an3 (fun hp0 hp1 hp2 => ?_)
    intro F3 N3
    dsimp only at *
    (try k_fold)
    have hv : vs.length < 1048576 := by
      have := congrArg List.length hp2
      rw [hp1.length]; simp only [List.length_append] at this; omega
    have hvn : ns.length < 1048576 := by rw [← hp1.length]; exact hv
    k_steps
    · (rename Fr _ _ _ _ => F4); (rename News _ _ _ _ => N4); (rename 0 < num => hpos)
      (simp only [List.push_toArray, List.cons_append, List.nil_append] at N4)
      refine' hK _ _ (WPost.next (_, _, _, ns ++ [num.fmod b], _) F4 N4 ?ke ?kn ?kp ?km)
      case ke => (intro y; (try dsimp only); by_cases h0 : y = Str.ofString "n"; (case pos => first | exact (if_pos h0).trans (if_pos h0).symm | (subst h0; with_unfolding_all exact rfl) | (simp only [if_pos h0]; done) | (simp only [if_pos h0]; rfl) | (subst h0; with_unfolding_all exact rfl)); (case neg => (first | rfl | ((repeat refine (if_neg (by assumption)).trans ?_); (repeat refine Eq.trans ?_ (if_neg (by assumption)).symm); done) | ((repeat refine (if_neg (by assumption)).trans ?_); (repeat refine Eq.trans ?_ (if_neg (by assumption)).symm); with_reducible rfl) | (simp only [if_neg h0]; done) | (simp only [if_neg h0]; rfl))))
      case kn => (first | exact List.forall_mem_nil _ | exact List.forall_mem_cons.mpr ⟨by k_mem, List.forall_mem_nil _⟩ | exact List.forall_mem_cons.mpr ⟨by k_mem, List.forall_mem_cons.mpr ⟨by k_mem, List.forall_mem_nil _⟩⟩ | exact List.forall_mem_cons.mpr ⟨by k_mem, List.forall_mem_cons.mpr ⟨by k_mem, List.forall_mem_cons.mpr ⟨by k_mem, List.forall_mem_nil _⟩⟩⟩)
      case kp =>
        dsimp only
        refine ⟨dig_fd0 hp0 hb, ints_snoc hp1 rfl, ?_⟩
        rw [List.append_assoc, List.singleton_append, ← dig_fd hpos hb]
        exact hp2
      case km => exact dig_fdlt hpos hb
    · (rename Fr _ _ _ _ => F4); (rename News _ _ _ _ => N4); (rename IntsAre _ (List.reverse _) => hI)
      rw [show num.toNat = 0 by omega, dig_zero, List.append_nil] at hp2
      exact Fin.mk F4 (newInts_of N4 (.head _) (hp2 ▸ hI))
theorem law_worth_does (W : Wd) (la : Addr) (va : List Value) (ds : List Int) (b : Int) (u : Tok) (H : Heap) (hla : H.IsList la va.toArray) (hia : IntsAre va ds) (hb : 2 ≤ b) (hb9 : b ≤ 70) (hds : ∀ d ∈ ds, 0 ≤ d ∧ d < b) (hna : ds.length < 1048576) :
    Does W 1 8 233 [.ref la, .int b u] H (fun _ v => ∃ t, v = .int (worth b ds) t) := by
  w_top off
  refine fill _ W.w ?_
  k_fill
  intro _
  refine' Does.enter (binds := [(PySem.Str.ofString "row", .ref la), (PySem.Str.ofString "base", .int b u)]) ?k6 ?k7 ?k9 ?kB ?_ ?c2 ?c3 ?c4 ?c5
  case k6 => k_is
  case k7 => k_is
  case k9 => (intro _; exact BindsTo.of_eq rfl)
  case c5 => decide
  case kB => exact locs rfl
  case c2 => exact rfl
  case c3 => exact rfl
  case c4 => exact rfl
  k_whole
  intro dp un gd fr base s0 L h1 hL hs X T B F N hd hu
  (try dsimp only [Nat.zero_add, Nat.reduceAdd] at hd hu)
  try dsimp only
  replace F : Fr H L h1 (fun y => if y = PySem.Str.ofString "base" then some (.int b u) else if y = PySem.Str.ofString "row" then some (.ref la) else none) := F
  (try k_fold)
  k_steps
  unfold Hold
  refine' for_list (σ := Int × Tok) (fun m c y => if y = Str.ofString "found" then some (.int c.1 c.2) else m y)
    (fun l c => []) (fun i c => c.1 = worth b (ds.take i)) (fun l => []) 0 (0, _) rfl hla hia ?F ?N ?hm ?hN ?ha ?hp ?turn ?done
  case F => assumption
  case N => assumption
  case hm => (intro y hyx; (try dsimp only); by_cases h0 : y = Str.ofString "found"; (case pos => first | exact (if_pos h0).trans (if_pos h0).symm | (subst h0; with_unfolding_all exact rfl) | (simp only [if_neg hyx, if_pos h0]; done) | (simp only [if_neg hyx, if_pos h0]; rfl) | (subst h0; with_unfolding_all exact rfl)); (case neg => (first | rfl | ((repeat refine (if_neg (by assumption)).trans ?_); (repeat refine Eq.trans ?_ (if_neg (by assumption)).symm); done) | ((repeat refine (if_neg (by assumption)).trans ?_); (repeat refine Eq.trans ?_ (if_neg (by assumption)).symm); with_reducible rfl) | (simp only [if_neg hyx, if_neg h0]; done) | (simp only [if_neg hyx, if_neg h0]; rfl))))
  case hN => (first | exact List.forall_mem_nil _ | exact List.forall_mem_cons.mpr ⟨by k_mem, List.forall_mem_nil _⟩ | exact List.forall_mem_cons.mpr ⟨by k_mem, List.forall_mem_cons.mpr ⟨by k_mem, List.forall_mem_nil _⟩⟩ | exact List.forall_mem_cons.mpr ⟨by k_mem, List.forall_mem_cons.mpr ⟨by k_mem, List.forall_mem_cons.mpr ⟨by k_mem, List.forall_mem_nil _⟩⟩⟩)
  case ha => (intro c; rfl)
  case hp => exact (worth_nil b).symm
  case turn =>
    refine pr2 (fun c tc => ?_)
    intro i d td h3 tk3 own K hK hi hc hoff F3 N3
    dsimp only at *
    (try k_fold)
    k_steps
    (rename Fr _ _ _ _ => F4); (rename News _ _ _ _ => N4)
    refine' hK _ _ (FPost.next (_, _) F4 N4 ?ke ?kn ?ko ?kp)
    case ke => (intro y hyx; (try dsimp only); by_cases h0 : y = Str.ofString "found"; (case pos => first | exact (if_pos h0).trans (if_pos h0).symm | (subst h0; with_unfolding_all exact rfl) | (simp only [if_neg hyx, if_pos h0]; done) | (simp only [if_neg hyx, if_pos h0]; rfl) | (subst h0; with_unfolding_all exact rfl)); (case neg => (first | rfl | ((repeat refine (if_neg (by assumption)).trans ?_); (repeat refine Eq.trans ?_ (if_neg (by assumption)).symm); done) | ((repeat refine (if_neg (by assumption)).trans ?_); (repeat refine Eq.trans ?_ (if_neg (by assumption)).symm); with_reducible rfl) | (simp only [if_neg hyx, if_neg h0]; done) | (simp only [if_neg hyx, if_neg h0]; rfl))))
    case kn => (first | exact List.forall_mem_nil _ | exact List.forall_mem_cons.mpr ⟨by k_mem, List.forall_mem_nil _⟩ | exact List.forall_mem_cons.mpr ⟨by k_mem, List.forall_mem_cons.mpr ⟨by k_mem, List.forall_mem_nil _⟩⟩ | exact List.forall_mem_cons.mpr ⟨by k_mem, List.forall_mem_cons.mpr ⟨by k_mem, List.forall_mem_cons.mpr ⟨by k_mem, List.forall_mem_nil _⟩⟩⟩)
    case ko => exact fun p hp => hp
    case kp =>
      dsimp only
      rw [worth_take hi, ← hc]
  case done =>
    refine pr2 (fun c tc => ?_)
    intro v h3 tk3 hc F3 N3
    dsimp only at *
    (try k_fold)
    rw [List.take_length] at hc
    subst hc
    k_steps
    (rename Fr _ _ _ _ => F4)
    exact Fin.mk F4 ⟨_, rfl⟩
theorem with_noughts_does (W : Wd) (la : Addr) (va : List Value) (ds : List Int) (k : Int) (u : Tok) (H : Heap) (hla : H.IsList la va.toArray) (hia : IntsAre va ds) (hna : ds.length < 1048576) (hk0 : 0 ≤ k) (hk : k < 1048576) :
    Does W 1 8 135 [.ref la, .int k u] H (fun h' v => NewInts H h' (List.replicate (k.toNat - ds.length) 0 ++ ds) v) := by
  w_top off
  refine fill _ W.w ?_
  k_fill
  intro _
  refine' Does.enter (binds := [(PySem.Str.ofString "digits", .ref la), (PySem.Str.ofString "many", .int k u)]) ?k6 ?k7 ?k9 ?kB ?_ ?c2 ?c3 ?c4 ?c5
  case k6 => k_is
  case k7 => k_is
  case k9 => (intro _; exact BindsTo.of_eq rfl)
  case c5 => decide
  case kB => exact locs rfl
  case c2 => exact rfl
  case c3 => exact rfl
  case c4 => exact rfl
  k_whole
  intro dp un gd fr base s0 L h1 hL hs X T B F N hd hu
  (try dsimp only [Nat.zero_add, Nat.reduceAdd] at hd hu)
  try dsimp only
  replace F : Fr H L h1 (fun y => if y = PySem.Str.ofString "many" then some (.int k u) else if y = PySem.Str.ofString "digits" then some (.ref la) else none) := F
  (try k_fold)
  k_steps
  (rename Fr _ _ _ _ => F4); (rename News _ _ _ _ => N4); (rename IntsAre _ (_ ++ ds) => hI)
  rw [flat_rep, show (k - (ds.length : Int)).toNat = k.toNat - ds.length by omega] at hI
  exact Fin.mk F4 (newInts_of N4 (.head _) hI)
theorem check_base_does (W : Wd) (b : Int) (t : Tok) (hb : 2 ≤ b) (H : Heap) : Does W 1 8 107 [.int b t] H (fun _ v => v = .none) := by
  w_top off
  refine fill _ W.w ?_
  k_fill
  intro _
  refine' Does.enter (binds := [(PySem.Str.ofString "base", .int b t)]) ?k6 ?k7 ?k9 ?kB ?_ ?c2 ?c3 ?c4 ?c5
  case k6 => k_is
  case k7 => k_is
  case k9 => (intro _; exact BindsTo.of_eq rfl)
  case c5 => decide
  case kB => exact locs rfl
  case c2 => exact rfl
  case c3 => exact rfl
  case c4 => exact rfl
  k_whole
  intro dp un gd fr base s0 L h1 hL hs X T B F N hd hu
  (try dsimp only [Nat.zero_add, Nat.reduceAdd] at hd hu)
  try dsimp only
  replace F : Fr H L h1 (fun y => if y = PySem.Str.ofString "base" then some (.int b t) else none) := F
  (try k_fold)
  k_steps
  exact Fin.mk F rfl
theorem law_cell_does (W : Wd) (la : Addr) (va : List Value) (ns : List Int) (k : Int) (u : Tok) (H : Heap) (hla : H.IsList la va.toArray) (hia : IntsAre va ns) (hna : ns.length < 1048576) (hk0 : 0 ≤ k) (hk : k < 1048576) :
    Does W 1 8 184 [.ref la, .int k u] H (fun _ v => ∃ t, v = .int (cell ns k) t) := by
  w_top off
  refine fill _ W.w ?_
  k_fill
  intro _
  refine' Does.enter (binds := [(PySem.Str.ofString "script", .ref la), (PySem.Str.ofString "at", .int k u)]) ?k6 ?k7 ?k9 ?kB ?_ ?c2 ?c3 ?c4 ?c5
  case k6 => k_is
  case k7 => k_is
  case k9 => (intro _; exact BindsTo.of_eq rfl)
  case c5 => decide
  case kB => exact locs rfl
  case c2 => exact rfl
  case c3 => exact rfl
  case c4 => exact rfl
  k_whole
  intro dp un gd fr base s0 L h1 hL hs X T B F N hd hu
  (try dsimp only [Nat.zero_add, Nat.reduceAdd] at hd hu)
  try dsimp only
  replace F : Fr H L h1 (fun y => if y = PySem.Str.ofString "at" then some (.int k u) else if y = PySem.Str.ofString "script" then some (.ref la) else none) := F
  (try k_fold)
  k_steps
  · rw [cell_nil (by omega)]
    exact Fin.mk F ⟨_, rfl⟩
  · rw [cell_cons (by omega)]
    exact Fin.mk F ⟨_, rfl⟩
theorem law_mul_does (W : Wd) (la lb : Addr) (va vb : List Value) (x y w : Int) (u : Tok) (H : Heap) (hla : H.IsList la va.toArray) (hia : IntsAre va (lm w x)) (hlb : H.IsList lb vb.toArray) (hib : IntsAre vb (lm w y)) (hx : 0 ≤ x) (hy : 0 ≤ y) (hw : 2 ≤ w) (hw9 : w ≤ 9)
    (hna : (lm w x).length < 1048576) (hnb : (lm w y).length < 1048576) (hlen : (lm w (x * y)).length < 1048576) : Does W 2 16 205 [.ref la, .ref lb, .int w u] H (fun h' v => NewInts H h' (lm w (x * y)) v) := by
  w_top off
  refine fill _ W.w ?_
  k_fill
  intro _
  refine' Does.enter (binds := [(PySem.Str.ofString "a", .ref la), (PySem.Str.ofString "b", .ref lb), (PySem.Str.ofString "w", .int w u)]) ?k6 ?k7 ?k9 ?kB ?_ ?c2 ?c3 ?c4 ?c5
  case k6 => k_is
  case k7 => k_is
  case k9 => (intro _; exact BindsTo.of_eq rfl)
  case c5 => decide
  case kB => exact locs rfl
  case c2 => exact rfl
  case c3 => exact rfl
  case c4 => exact rfl
  k_whole
  intro dp un gd fr base s0 L h1 hL hs X T B F N hd hu
  (try dsimp only [Nat.zero_add, Nat.reduceAdd] at hd hu)
  try dsimp only
  replace F : Fr H L h1 (fun y => if y = PySem.Str.ofString "w" then some (.int w u) else if y = PySem.Str.ofString "b" then some (.ref lb) else if y = PySem.Str.ofString "a" then some (.ref la) else none) := F
  (try k_fold)
  have hmul := mul_fits_lm (w := w) (by omega) hw9 hx hy hna hnb
  have hxy := Int.mul_nonneg hx hy
  k_steps
  (unfold Hold; refine Does.useI (by assumption) (by assumption) B X T rfl rfl (law_number_does W _ _ x w _ _ (by is_list) hia hx hw hw9 hna) (by first | exact Sl.r1 hd (by decide +kernel) | (show dp + 1 + _ < recursionLimit; omega)) (by first | exact Sl.r1 hu (by decide +kernel) | (show un + 3 + _ < cLine; omega)) ?_)
  intro t2 h2 tk2 F2 N2
  k_steps
  (unfold Hold; refine Does.useI (by assumption) (by assumption) B X T rfl rfl (law_number_does W _ _ y w _ _ (by is_list) hib hy hw hw9 hnb) (by first | exact Sl.r1 hd (by decide +kernel) | (show dp + 1 + _ < recursionLimit; omega)) (by first | exact Sl.r1 hu (by decide +kernel) | (show un + 3 + _ < cLine; omega)) ?_)
  intro t3 h3 tk3 F3 N3
  k_steps
  (unfold Hold; refine Does.useL (by assumption) (by assumption) B X T rfl rfl (law_limbs_does W (x * y) w _ _ hxy hw hw9 hlen _) (by first | exact Sl.r1 hd (by decide +kernel) | (show dp + 1 + _ < recursionLimit; omega)) (by first | exact Sl.r1 hu (by decide +kernel) | (show un + 3 + _ < cLine; omega)) ?_)
  intro l its n h4 tk4 F4 N4 hne hi4
  k_steps
  exact Fin.mk F4 (newInts_of N4 (.head _) hi4)
theorem law_divrem_does (W : Wd) (la lb : Addr) (va vb : List Value) (x y w : Int) (u : Tok) (H : Heap) (hla : H.IsList la va.toArray) (hia : IntsAre va (lm w x)) (hlb : H.IsList lb vb.toArray) (hib : IntsAre vb (lm w y)) (hx : 0 ≤ x) (hy : 0 < y) (hw : 2 ≤ w) (hw9 : w ≤ 9)
    (hna : (lm w x).length < 1048576) (hnb : (lm w y).length < 1000) : Does W 2 16 219 [.ref la, .ref lb, .int w u] H (fun h' v => NewTwo H h' (lm w (x / y)) (lm w (x % y)) v) := by
  w_top off
  refine fill _ W.w ?_
  k_fill
  intro _
  refine' Does.enter (binds := [(PySem.Str.ofString "a", .ref la), (PySem.Str.ofString "b", .ref lb), (PySem.Str.ofString "w", .int w u)]) ?k6 ?k7 ?k9 ?kB ?_ ?c2 ?c3 ?c4 ?c5
  case k6 => k_is
  case k7 => k_is
  case k9 => (intro _; exact BindsTo.of_eq rfl)
  case c5 => decide
  case kB => exact locs rfl
  case c2 => exact rfl
  case c3 => exact rfl
  case c4 => exact rfl
  k_whole
  intro dp un gd fr base s0 L h1 hL hs X T B F N hd hu
  (try dsimp only [Nat.zero_add, Nat.reduceAdd] at hd hu)
  try dsimp only
  replace F : Fr H L h1 (fun y => if y = PySem.Str.ofString "w" then some (.int w u) else if y = PySem.Str.ofString "b" then some (.ref lb) else if y = PySem.Str.ofString "a" then some (.ref la) else none) := F
  (try k_fold)
  have hpy := no_pylong (w := w) (x := x) (by omega) hw9 hy hnb
  have hq := Int.ediv_nonneg hx (Int.le_of_lt hy)
  have hr := Int.emod_nonneg x (show y ≠ 0 by omega)
  have hql : (lm w (x / y)).length < 1048576 := Nat.lt_of_le_of_lt (lm_len_mono (by omega) hq (Int.ediv_le_self _ hx)) hna
  have hrl : (lm w (x % y)).length < 1048576 := Nat.lt_of_le_of_lt (lm_len_mono (by omega) hr (emod_le_self hx hy)) hna
  k_steps
  (unfold Hold; refine Does.useI (by assumption) (by assumption) B X T rfl rfl (law_number_does W _ _ x w _ _ (by is_list) hia hx hw hw9 hna) (by first | exact Sl.r1 hd (by decide +kernel) | (show dp + 1 + _ < recursionLimit; omega)) (by first | exact Sl.r1 hu (by decide +kernel) | (show un + 3 + _ < cLine; omega)) ?_)
  intro t2 h2 tk2 F2 N2
  k_steps
  (unfold Hold; refine Does.useI (by assumption) (by assumption) B X T rfl rfl (law_number_does W _ _ y w _ _ (by is_list) hib (by omega) hw hw9 (by omega)) (by first | exact Sl.r1 hd (by decide +kernel) | (show dp + 1 + _ < recursionLimit; omega)) (by first | exact Sl.r1 hu (by decide +kernel) | (show un + 3 + _ < cLine; omega)) ?_)
  intro t3 h3 tk3 F3 N3
  k_steps
  have hfq : x.fdiv y = x / y := Int.fdiv_eq_ediv_of_nonneg _ (by omega)
  have hfr : x.fmod y = x % y := Int.fmod_eq_emod_of_nonneg _ (by omega)
  rw [hfq]
  (unfold Hold; refine Does.useL (by assumption) (by assumption) B X T rfl rfl (law_limbs_does W (x / y) w _ _ hq hw hw9 hql _) (by first | exact Sl.r1 hd (by decide +kernel) | (show dp + 1 + _ < recursionLimit; omega)) (by first | exact Sl.r1 hu (by decide +kernel) | (show un + 3 + _ < cLine; omega)) ?_)
  intro l its n h4 tk4 F4 N4 hne4 hi4
  k_steps
  rw [hfr]
  (unfold Hold; refine Does.useL (by assumption) (by assumption) B X T rfl rfl (law_limbs_does W (x % y) w _ _ hr hw hw9 hrl _) (by first | exact Sl.r1 hd (by decide +kernel) | (show dp + 1 + _ < recursionLimit; omega)) (by first | exact Sl.r1 hu (by decide +kernel) | (show un + 3 + _ < cLine; omega)) ?_)
  intro l2 its2 n2 h5 tk5 F5 N5 hne5 hi5
  have hll := hne5 _ (.head _)
  k_steps
  (rename Fr _ _ _ _ => F6); (rename News _ _ _ _ => N6)
  exact Fin.mk F6 (newTwo_of N6 (.head _) (.tail _ (.tail _ (.head _))) (.tail _ (.head _)) hll hi4 hi5)
theorem digit_off_does (W : Wd) (la : Addr) (va : List Value) (x b w : Int) (t u : Tok) (H : Heap) (hla : H.IsList la va.toArray) (hia : IntsAre va (lm w x)) (hx : 0 ≤ x) (hb : 2 ≤ b) (hb9 : b ≤ 70) (hw : 2 ≤ w) (hw9 : w ≤ 9)
    (hna : (lm w x).length < 1048576) : Does W 3 24 114 [.ref la, .int b t, .int w u, .ref 219] H (fun h' v => NewPair H h' (lm w (x / b)) (x % b) v) := by
  w_top off
  refine fill _ W.w ?_
  k_fill
  intro _
  refine' Does.enter (binds := [(PySem.Str.ofString "a", .ref la), (PySem.Str.ofString "base", .int b t), (PySem.Str.ofString "w", .int w u), (PySem.Str.ofString "divrem", .ref 219)]) ?k6 ?k7 ?k9 ?kB ?_ ?c2 ?c3 ?c4 ?c5
  case k6 => k_is
  case k7 => k_is
  case k9 => (intro _; exact BindsTo.of_eq rfl)
  case c5 => decide
  case kB => exact locs rfl
  case c2 => exact rfl
  case c3 => exact rfl
  case c4 => exact rfl
  k_whole
  intro dp un gd fr base s0 L h1 hL hs X T B F N hd hu
  (try dsimp only [Nat.zero_add, Nat.reduceAdd] at hd hu)
  try dsimp only
  replace F : Fr H L h1 (fun y => if y = PySem.Str.ofString "divrem" then some (.ref 219) else if y = PySem.Str.ofString "w" then some (.int w u) else if y = PySem.Str.ofString "base" then some (.int b t) else if y = PySem.Str.ofString "a" then some (.ref la) else none) := F
  (try k_fold)
  have hB2 := two_le_powI (w := w) (by omega)
  have hbl : (lm w b).length < 1000 := lm_len_base (by omega) (by omega) hb9
  have hr := Int.emod_nonneg x (show b ≠ 0 by omega)
  have hrl : (lm w (x % b)).length < 1048576 := Nat.lt_of_le_of_lt (lm_len_mono (by omega) hr (emod_le_self hx (by omega))) hna
  k_steps
  · (unfold Hold; refine Does.useP (by assumption) (by assumption) B X T rfl rfl (divrem_limb_does W _ _ x b w _ _ _ (by is_list) hia hx (by omega) (by omega) hw hw9 hna) (by first | exact Sl.r1 hd (by decide +kernel) | (show dp + 1 + _ < recursionLimit; omega)) (by first | exact Sl.r1 hu (by decide +kernel) | (show un + 3 + _ < cLine; omega)) ?_)
    intro p l its n k t2 h4 tk4 F4 N4 hp4 hl4 hpl hi4
    k_steps
    exact Fin.mk F4 (newPair_of N4 (.head _) (.tail _ (.head _)) hi4)
  · (unfold Hold; refine Does.useL (by assumption) (by assumption) B X T rfl rfl (nat_of_does W b w _ _ (by omega) hw hw9 (by omega) _) (by first | exact Sl.r1 hd (by decide +kernel) | (show dp + 1 + _ < recursionLimit; omega)) (by first | exact Sl.r1 hu (by decide +kernel) | (show un + 3 + _ < cLine; omega)) ?_)
    intro l its n h4 tk4 F4 N4 hne4 hi4
    k_steps
    (unfold Hold; refine Does.useT (by assumption) (by assumption) B X T rfl rfl (law_divrem_does W _ _ _ _ x b w _ _ (by is_list) hia (News.isList N4 (.head _)) hi4 hx (by omega) hw hw9 hna hbl) (by first | exact Sl.r1 hd (by decide +kernel) | (show dp + 1 + _ < recursionLimit; omega)) (by first | exact Sl.r1 hu (by decide +kernel) | (show un + 3 + _ < cLine; omega)) ?_)
    intro p l1 l2 its1 its2 n1 n2 k h5 tk5 F5 N5 hp5 hl5 hl5' hpl hpl' hll hi5 hi5'
    k_steps
    (rename Fr _ _ _ _ => F6); (rename News _ _ _ _ => N6)
    (unfold Hold; refine Does.useI (by assumption) (by assumption) B X T rfl rfl (plain_of_does W _ _ (x % b) w _ _ (News.isList N6 (.tail _ (.tail _ (.head _)))) hi5' hr hw hw9 hrl) (by first | exact Sl.r1 hd (by decide +kernel) | (show dp + 1 + _ < recursionLimit; omega)) (by first | exact Sl.r1 hu (by decide +kernel) | (show un + 3 + _ < cLine; omega)) ?_)
    intro t7 h7 tk7 F7 N7
    k_steps
    (rename Fr _ _ _ _ => F8); (rename News _ _ _ _ => N8)
    exact Fin.mk F8 (newPair_of N8 (.head _) (.tail _ (.tail _ (.head _))) hi5)
theorem times_base_does (W : Wd) (la : Addr) (va : List Value) (x b w : Int) (t u : Tok) (H : Heap) (hla : H.IsList la va.toArray) (hia : IntsAre va (lm w x)) (hx : 0 ≤ x) (hb : 2 ≤ b) (hb9 : b ≤ 70) (hw : 2 ≤ w) (hw9 : w ≤ 9)
    (hna : (lm w x).length < 1048576) (hlen : (lm w (x * b)).length < 1048576) : Does W 3 24 156 [.ref la, .int b t, .int w u, .ref 205] H (fun h' v => NewInts H h' (lm w (x * b)) v) := by
  w_top off
  refine fill _ W.w ?_
  k_fill
  intro _
  refine' Does.enter (binds := [(PySem.Str.ofString "a", .ref la), (PySem.Str.ofString "base", .int b t), (PySem.Str.ofString "w", .int w u), (PySem.Str.ofString "mul", .ref 205)]) ?k6 ?k7 ?k9 ?kB ?_ ?c2 ?c3 ?c4 ?c5
  case k6 => k_is
  case k7 => k_is
  case k9 => (intro _; exact BindsTo.of_eq rfl)
  case c5 => decide
  case kB => exact locs rfl
  case c2 => exact rfl
  case c3 => exact rfl
  case c4 => exact rfl
  k_whole
  intro dp un gd fr base s0 L h1 hL hs X T B F N hd hu
  (try dsimp only [Nat.zero_add, Nat.reduceAdd] at hd hu)
  try dsimp only
  replace F : Fr H L h1 (fun y => if y = PySem.Str.ofString "mul" then some (.ref 205) else if y = PySem.Str.ofString "w" then some (.int w u) else if y = PySem.Str.ofString "base" then some (.int b t) else if y = PySem.Str.ofString "a" then some (.ref la) else none) := F
  (try k_fold)
  have hB2 := two_le_powI (w := w) (by omega)
  have hbl : (lm w b).length < 1000 := lm_len_base (by omega) (by omega) hb9
  k_steps
  · (unfold Hold; refine Does.useL (by assumption) (by assumption) B X T rfl rfl (mul_limb_does W _ _ x b w _ _ _ (by is_list) hia hx (by omega) (by omega) hw hw9 hna hlen) (by first | exact Sl.r1 hd (by decide +kernel) | (show dp + 1 + _ < recursionLimit; omega)) (by first | exact Sl.r1 hu (by decide +kernel) | (show un + 3 + _ < cLine; omega)) ?_)
    intro l its n h4 tk4 F4 N4 hne4 hi4
    k_steps
    exact Fin.mk F4 (newInts_of N4 (.head _) hi4)
  · (unfold Hold; refine Does.useL (by assumption) (by assumption) B X T rfl rfl (nat_of_does W b w _ _ (by omega) hw hw9 (by omega) _) (by first | exact Sl.r1 hd (by decide +kernel) | (show dp + 1 + _ < recursionLimit; omega)) (by first | exact Sl.r1 hu (by decide +kernel) | (show un + 3 + _ < cLine; omega)) ?_)
    intro l its n h4 tk4 F4 N4 hne4 hi4
    k_steps
    (unfold Hold; refine Does.useL (by assumption) (by assumption) B X T rfl rfl (law_mul_does W _ _ _ _ x b w _ _ (by is_list) hia (News.isList N4 (.head _)) hi4 hx (by omega) hw hw9 hna (by omega) hlen) (by first | exact Sl.r1 hd (by decide +kernel) | (show dp + 1 + _ < recursionLimit; omega)) (by first | exact Sl.r1 hu (by decide +kernel) | (show un + 3 + _ < cLine; omega)) ?_)
    intro l2 its2 n2 h5 tk5 F5 N5 hne5 hi5
    k_steps
    exact Fin.mk F5 (newInts_of N5 (.head _) hi5)
structure DP where
  pa : Addr
  va : List Value
  vs : List Value
  ns : List Int
  n : Nat
  X : Int
  ex : List (Addr × Obj)
  dg : Option Value
theorem digits_plain_does (W : Wd) (la : Addr) (va : List Value) (x b w : Int) (t u : Tok) (H : Heap) (hla : H.IsList la va.toArray) (hia : IntsAre va (lm w x)) (hx : 0 ≤ x) (hb : 2 ≤ b) (hb9 : b ≤ 70) (hw : 2 ≤ w) (hw9 : w ≤ 9)
    (hna : (lm w x).length < 1048576) (hlen : (dig b.toNat x.toNat).length < 1048576) : Does W 4 32 121 [.ref la, .int b t, .int w u, .ref 219] H (fun h' v => NewInts H h' (dig b.toNat x.toNat).reverse v) := by
  w_top off
  refine fill _ W.w ?_
  k_fill
  intro _
  refine' Does.enter (binds := [(PySem.Str.ofString "a", .ref la), (PySem.Str.ofString "base", .int b t), (PySem.Str.ofString "w", .int w u), (PySem.Str.ofString "divrem", .ref 219)]) ?k6 ?k7 ?k9 ?kB ?_ ?c2 ?c3 ?c4 ?c5
  case k6 => k_is
  case k7 => k_is
  case k9 => (intro _; exact BindsTo.of_eq rfl)
  case c5 => decide
  case kB => exact locs rfl
  case c2 => exact rfl
  case c3 => exact rfl
  case c4 => exact rfl
  k_whole
  intro dp un gd fr base s0 L h1 hL hs X T B F N hd hu
  (try dsimp only [Nat.zero_add, Nat.reduceAdd] at hd hu)
  try dsimp only
  replace F : Fr H L h1 (fun y => if y = PySem.Str.ofString "divrem" then some (.ref 219) else if y = PySem.Str.ofString "w" then some (.int w u) else if y = PySem.Str.ofString "base" then some (.int b t) else if y = PySem.Str.ofString "a" then some (.ref la) else none) := F
  (try k_fold)
  k_steps
  unfold Hold
  refine' while_rule (σ := DP) (fun m c y => if y = Str.ofString "a" then some (.ref c.pa) else if y = Str.ofString "digit" then c.dg else m y)
    (fun l c => (l, PySem.W.listOf c.vs.toArray c.n) :: c.ex) (fun c => 0 ≤ c.X ∧ c.X ≤ x ∧ IntsAre c.va (lm w c.X) ∧ IntsAre c.vs c.ns ∧ c.ns ++ dig b.toNat c.X.toNat = dig b.toNat x.toNat ∧ ((H.IsList c.pa c.va.toArray ∧ c.ex = []) ∨ ∃ k, c.ex = [(c.pa, PySem.W.listOf c.va.toArray k)])) (fun c => c.X.toNat) _ ⟨la, va, [], [], 0, x, [], _⟩ ?F ?N ?hm ?hN ?hp ?turn PassesOwn.never
  case F => assumption
  case N => assumption
  case hm => (intro y; (try dsimp only); by_cases h0 : y = Str.ofString "a"; (case pos => first | exact (if_pos h0).trans (if_pos h0).symm | (subst h0; with_unfolding_all exact rfl) | (simp only [if_pos h0]; done) | (simp only [if_pos h0]; rfl) | (subst h0; with_unfolding_all exact rfl)); (case neg => by_cases h1 : y = Str.ofString "digit"; (case pos => first | exact (if_pos h1).trans (if_pos h1).symm | (subst h1; with_unfolding_all exact rfl) | (simp only [if_neg h0, if_pos h1]; done) | (simp only [if_neg h0, if_pos h1]; rfl) | (subst h1; with_unfolding_all exact rfl)); (case neg => (first | rfl | ((repeat refine (if_neg (by assumption)).trans ?_); (repeat refine Eq.trans ?_ (if_neg (by assumption)).symm); done) | ((repeat refine (if_neg (by assumption)).trans ?_); (repeat refine Eq.trans ?_ (if_neg (by assumption)).symm); with_reducible rfl) | (simp only [if_neg h0, if_neg h1]; done) | (simp only [if_neg h0, if_neg h1]; rfl)))))
  case hN => (first | exact List.forall_mem_nil _ | exact List.forall_mem_cons.mpr ⟨by k_mem, List.forall_mem_nil _⟩ | exact List.forall_mem_cons.mpr ⟨by k_mem, List.forall_mem_cons.mpr ⟨by k_mem, List.forall_mem_nil _⟩⟩ | exact List.forall_mem_cons.mpr ⟨by k_mem, List.forall_mem_cons.mpr ⟨by k_mem, List.forall_mem_cons.mpr ⟨by k_mem, List.forall_mem_nil _⟩⟩⟩)
  case hp => exact ⟨hx, Int.le_refl _, hia, .nil, rfl, .inl ⟨hla, rfl⟩⟩
  case turn =>
    rintro ⟨pa, va3, vs, ns, n, X3, ex, dg⟩
    intro h3 tk3 K hK
    refine an6 (fun hX hXx hi3 hp1 hp2 hex => ?_)
    intro F3 N3
    dsimp only at *
    (try k_fold)
    have hcur : h3.IsList pa va3.toArray := by
      rcases hex with ⟨h, _⟩ | ⟨k, rfl⟩
      · exact h.at fun o e => F3.keep _ o e
      · exact News.isList N3 (.tail _ (.head _))
    replace N3 := news_sub (news' := [_]) N3 (List.forall_mem_cons.mpr ⟨.head _, List.forall_mem_nil _⟩)
    have hl3 : (lm w X3).length < 1048576 := Nat.lt_of_le_of_lt (lm_len_mono (by omega) hX hXx) hna
    have hv : vs.length < 1048576 := by
      have := congrArg List.length hp2
      rw [hp1.length]; simp only [List.length_append] at this; omega
    have hvn : ns.length < 1048576 := by rw [← hp1.length]; exact hv
    k_steps
    · (rename 0 < ((lm w X3).length : Int) => hpos)
      have hXp : 0 < X3 := lm_pos_of_ne (w := w) (by intro e; rw [e] at hpos; exact absurd hpos (by decide))
      (unfold Hold; refine Does.useP (by assumption) (by assumption) B X T rfl rfl (digit_off_does W _ _ X3 b w _ _ _ hcur hi3 hX hb hb9 hw hw9 hl3) (by first | exact Sl.r1 hd (by decide +kernel) | (show dp + 1 + _ < recursionLimit; omega)) (by first | exact Sl.r1 hu (by decide +kernel) | (show un + 3 + _ < cLine; omega)) ?_)
      intro p l4 its n4 k4 t4 h4 tk4 F4 N4 hp4 hl4 hpl hi4
      have hpa := neN (hp4 _ (.head _))
      have hla4 := neN (hl4 _ (.head _))
      dsimp only at hpa hla4
      k_steps
      (rename Fr _ _ _ _ => F6); (rename News _ _ _ _ => N6)
      rw [List.push_toArray] at N6
      have hXd := dig_fd hXp hb
      rw [Int.fmod_eq_emod_of_nonneg _ (by omega), Int.fdiv_eq_ediv_of_nonneg _ (by omega)] at hXd
      refine' hK _ _ (WPost.next ⟨l4, its, _, ns ++ [X3 % b], _, X3 / b, [(l4, PySem.W.listOf its.toArray n4)], _⟩ F6 N6 ?ke ?kn ?kp ?km)
      case ke => (intro y; (try dsimp only); by_cases h0 : y = Str.ofString "a"; (case pos => first | exact (if_pos h0).trans (if_pos h0).symm | (subst h0; with_unfolding_all exact rfl) | (simp only [if_pos h0]; done) | (simp only [if_pos h0]; rfl) | (subst h0; with_unfolding_all exact rfl)); (case neg => by_cases h1 : y = Str.ofString "digit"; (case pos => first | exact (if_pos h1).trans (if_pos h1).symm | (subst h1; with_unfolding_all exact rfl) | (simp only [if_neg h0, if_pos h1]; done) | (simp only [if_neg h0, if_pos h1]; rfl) | (subst h1; with_unfolding_all exact rfl)); (case neg => (first | rfl | ((repeat refine (if_neg (by assumption)).trans ?_); (repeat refine Eq.trans ?_ (if_neg (by assumption)).symm); done) | ((repeat refine (if_neg (by assumption)).trans ?_); (repeat refine Eq.trans ?_ (if_neg (by assumption)).symm); with_reducible rfl) | (simp only [if_neg h0, if_neg h1]; done) | (simp only [if_neg h0, if_neg h1]; rfl)))))
      case kn => exact List.forall_mem_cons.mpr ⟨by k_mem, List.forall_mem_cons.mpr ⟨by k_mem, List.forall_mem_nil _⟩⟩
      case kp =>
        dsimp only
        refine ⟨Int.ediv_nonneg hX (by omega), Int.le_trans (Int.ediv_le_self _ hX) hXx, hi4, ints_snoc hp1 rfl, ?_, .inr ⟨_, rfl⟩⟩
        rw [List.append_assoc, List.singleton_append, ← hXd]
        exact hp2
      case km =>
        dsimp only
        have := dig_fdlt hXp hb
        rw [Int.fdiv_eq_ediv_of_nonneg _ (by omega)] at this
        exact this
    · (rename Fr _ _ _ _ => F4); (rename News _ _ _ _ => N4); (rename IntsAre _ (List.reverse _) => hI)
      have hz : X3 = 0 := by
        by_cases hp : 0 < X3
        · have := List.length_pos_iff.mpr (lm_ne (w := w) (by omega) hp)
          omega
        · omega
      rw [hz, show (0 : Int).toNat = 0 from rfl, dig_zero, List.append_nil] at hp2
      rw [hp2] at hI
      exact Fin.mk F4 (newInts_of N4 (.head _) hI)
structure NP where
  pf : Addr
  vf : List Value
  nf : Nat
  X : Int
theorem number_plain_does (W : Wd) (la : Addr) (va : List Value) (ds : List Int) (b w : Int) (t u : Tok) (H : Heap) (hla : H.IsList la va.toArray) (hia : IntsAre va ds) (hds : ∀ d ∈ ds, 0 ≤ d ∧ d < b) (hb : 2 ≤ b) (hb9 : b ≤ 70) (hw : 2 ≤ w) (hw9 : w ≤ 9)
    (hna : ds.length < 1048576) (hlen : (lm w (worth b ds)).length < 1048576) : Does W 4 32 163 [.ref la, .int b t, .int w u, .ref 205] H (fun h' v => NewInts H h' (lm w (worth b ds)) v) := by
  w_top off
  refine fill _ W.w ?_
  k_fill
  intro _
  refine' Does.enter (binds := [(PySem.Str.ofString "digits", .ref la), (PySem.Str.ofString "base", .int b t), (PySem.Str.ofString "w", .int w u), (PySem.Str.ofString "mul", .ref 205)]) ?k6 ?k7 ?k9 ?kB ?_ ?c2 ?c3 ?c4 ?c5
  case k6 => k_is
  case k7 => k_is
  case k9 => (intro _; exact BindsTo.of_eq rfl)
  case c5 => decide
  case kB => exact locs rfl
  case c2 => exact rfl
  case c3 => exact rfl
  case c4 => exact rfl
  k_whole
  intro dp un gd fr base s0 L h1 hL hs X T B F N hd hu
  (try dsimp only [Nat.zero_add, Nat.reduceAdd] at hd hu)
  try dsimp only
  replace F : Fr H L h1 (fun y => if y = PySem.Str.ofString "mul" then some (.ref 205) else if y = PySem.Str.ofString "w" then some (.int w u) else if y = PySem.Str.ofString "base" then some (.int b t) else if y = PySem.Str.ofString "digits" then some (.ref la) else none) := F
  (try k_fold)
  k_steps
  unfold Hold
  refine' for_list_v (σ := NP) (fun m c y => if y = Str.ofString "found" then some (.ref c.pf) else m y)
    (fun c => [(c.pf, PySem.W.listOf c.vf.toArray c.nf)]) (fun i c => c.X = worth b (ds.take i) ∧ IntsAre c.vf (lm w c.X)) ⟨_, [], 0, 0⟩ rfl hla hia ?F ?N ?hm ?hN ?hp ?turn ?done
  case F => assumption
  case N => assumption
  case hm => (intro y hyx; (try dsimp only); by_cases h0 : y = Str.ofString "found"; (case pos => first | exact (if_pos h0).trans (if_pos h0).symm | (subst h0; with_unfolding_all exact rfl) | (simp only [if_neg hyx, if_pos h0]; done) | (simp only [if_neg hyx, if_pos h0]; rfl) | (subst h0; with_unfolding_all exact rfl)); (case neg => (first | rfl | ((repeat refine (if_neg (by assumption)).trans ?_); (repeat refine Eq.trans ?_ (if_neg (by assumption)).symm); done) | ((repeat refine (if_neg (by assumption)).trans ?_); (repeat refine Eq.trans ?_ (if_neg (by assumption)).symm); with_reducible rfl) | (simp only [if_neg hyx, if_neg h0]; done) | (simp only [if_neg hyx, if_neg h0]; rfl))))
  case hN => (first | exact List.forall_mem_nil _ | exact List.forall_mem_cons.mpr ⟨by k_mem, List.forall_mem_nil _⟩ | exact List.forall_mem_cons.mpr ⟨by k_mem, List.forall_mem_cons.mpr ⟨by k_mem, List.forall_mem_nil _⟩⟩ | exact List.forall_mem_cons.mpr ⟨by k_mem, List.forall_mem_cons.mpr ⟨by k_mem, List.forall_mem_cons.mpr ⟨by k_mem, List.forall_mem_nil _⟩⟩⟩)
  case hp => exact ⟨rfl, by rw [lm_zero]; exact .nil⟩
  case turn =>
    rintro ⟨pf, vf, nf, X3⟩
    intro i d td h3 tk3 own K hK hi
    refine an2 (fun hX hi3 => ?_)
    intro F3 N3
    dsimp only at *
    (try k_fold)
    have hd := hds d (List.mem_of_getElem? hi)
    have hX0 : 0 ≤ X3 := by rw [hX]; exact worth_nonneg (by omega) ds i hds
    have hXb := Int.mul_nonneg hX0 (show 0 ≤ b by omega)
    have hst : worth b (ds.take (i + 1)) = X3 * b + d := by rw [worth_take hi, ← hX]
    have hle := worth_mono (b := b) (i := i + 1) (by omega) hds
    have hle0 := worth_mono (b := b) (i := i) (by omega) hds
    rw [hst] at hle
    have hl0 : (lm w X3).length < 1048576 := Nat.lt_of_le_of_lt (lm_len_mono (by omega) hX0 (by omega)) hlen
    have hl1 : (lm w (X3 * b)).length < 1048576 := Nat.lt_of_le_of_lt (lm_len_mono (by omega) hXb (by omega)) hlen
    have hl2 : (lm w (X3 * b + d)).length < 1048576 := Nat.lt_of_le_of_lt (lm_len_mono (by omega) (by omega) hle) hlen
    have hld : (lm w d).length < 1000 := lm_len_base (by omega) hd.1 (by omega)
    k_steps
    (unfold Hold; refine Does.useL (by assumption) (by assumption) B X T rfl rfl (times_base_does W _ _ X3 b w _ _ _ (News.isList N3 (.head _)) hi3 hX0 hb hb9 hw hw9 hl0 hl1) (by first | exact Sl.r1 hd (by decide +kernel) | (show dp + 1 + _ < recursionLimit; omega)) (by first | exact Sl.r1 hu (by decide +kernel) | (show un + 3 + _ < cLine; omega)) ?_)
    intro l4 its4 n4 h4 tk4 F4 N4 hne4 hi4
    k_steps
    (unfold Hold; refine Does.useL (by assumption) (by assumption) B X T rfl rfl (nat_of_does W d w _ _ hd.1 hw hw9 (by omega) _) (by first | exact Sl.r1 hd (by decide +kernel) | (show dp + 1 + _ < recursionLimit; omega)) (by first | exact Sl.r1 hu (by decide +kernel) | (show un + 3 + _ < cLine; omega)) ?_)
    intro l5 its5 n5 h5 tk5 F5 N5 hne5 hi5
    k_steps
    (unfold Hold; refine Does.useL (by assumption) (by assumption) B X T rfl rfl (add_does W _ _ _ _ (X3 * b) d w _ _ (News.isList N5 (.tail _ (.head _))) hi4 (News.isList N5 (.head _)) hi5 hXb hd.1 hw hw9 hl1 (by omega) hl2) (by first | exact Sl.r1 hd (by decide +kernel) | (show dp + 1 + _ < recursionLimit; omega)) (by first | exact Sl.r1 hu (by decide +kernel) | (show un + 3 + _ < cLine; omega)) ?_)
    intro l6 its6 n6 h6 tk6 F6 N6 hne6 hi6
    k_steps
    (rename Fr _ _ _ _ => F7); (rename News _ _ _ _ => N7)
    refine' hK _ _ (VPost.next ⟨l6, its6, n6, X3 * b + d⟩ F7 N7 ?ke ?kn ?ko ?ka ?kp)
    case ke => (intro y hyx; (try dsimp only); by_cases h0 : y = Str.ofString "found"; (case pos => first | exact (if_pos h0).trans (if_pos h0).symm | (subst h0; with_unfolding_all exact rfl) | (simp only [if_neg hyx, if_pos h0]; done) | (simp only [if_neg hyx, if_pos h0]; rfl) | (subst h0; with_unfolding_all exact rfl)); (case neg => (first | rfl | ((repeat refine (if_neg (by assumption)).trans ?_); (repeat refine Eq.trans ?_ (if_neg (by assumption)).symm); done) | ((repeat refine (if_neg (by assumption)).trans ?_); (repeat refine Eq.trans ?_ (if_neg (by assumption)).symm); with_reducible rfl) | (simp only [if_neg hyx, if_neg h0]; done) | (simp only [if_neg hyx, if_neg h0]; rfl))))
    case kn => (first | exact List.forall_mem_nil _ | exact List.forall_mem_cons.mpr ⟨by k_mem, List.forall_mem_nil _⟩ | exact List.forall_mem_cons.mpr ⟨by k_mem, List.forall_mem_cons.mpr ⟨by k_mem, List.forall_mem_nil _⟩⟩ | exact List.forall_mem_cons.mpr ⟨by k_mem, List.forall_mem_cons.mpr ⟨by k_mem, List.forall_mem_cons.mpr ⟨by k_mem, List.forall_mem_nil _⟩⟩⟩)
    case ko => exact fun p hp => .tail _ (.tail _ (.tail _ (List.mem_append_right _ hp)))
    case ka =>
      intro p hp q hq
      rw [List.mem_singleton.mp hp]
      exact hne6 q (.tail _ (.tail _ (List.mem_append_right _ hq)))
    case kp => exact ⟨hst.symm, hi6⟩
  case done =>
    rintro ⟨pf, vf, nf, X3⟩
    intro v h3 tk3
    refine an2 (fun hX hi3 => ?_)
    intro F3 N3
    dsimp only at *
    (try k_fold)
    rw [List.take_length] at hX
    subst hX
    k_steps
    exact Fin.mk F3 (newInts_of N3 (.head _) hi3)
structure BP where
  pp : Addr
  vp : List Value
  np : Nat
  k : Nat
  vs : List Value
  n : Nat
  inner : List (Addr × Obj)
theorem base_powers_does (W : Wd) (la : Addr) (va : List Value) (x b w : Int) (t u : Tok) (H : Heap) (hla : H.IsList la va.toArray) (hia : IntsAre va (lm w x)) (hx : 0 ≤ x) (hb : 2 ≤ b) (hb9 : b ≤ 70) (hw : 2 ≤ w) (hw9 : w ≤ 9)
    (hna : (lm w x).length < 1000) : Does W 3 24 128 [.ref la, .int b t, .int w u, .ref 205] H (fun h' v => ∃ k, k ≤ 14 ∧ (∀ i, i < k → b ^ (2 ^ i) ≤ x) ∧ NewPows H h' w (pows b k) v) := by
  w_top off
  refine fill _ W.w ?_
  k_fill
  intro _
  refine' Does.enter (binds := [(PySem.Str.ofString "a", .ref la), (PySem.Str.ofString "base", .int b t), (PySem.Str.ofString "w", .int w u), (PySem.Str.ofString "mul", .ref 205)]) ?k6 ?k7 ?k9 ?kB ?_ ?c2 ?c3 ?c4 ?c5
  case k6 => k_is
  case k7 => k_is
  case k9 => (intro _; exact BindsTo.of_eq rfl)
  case c5 => decide
  case kB => exact locs rfl
  case c2 => exact rfl
  case c3 => exact rfl
  case c4 => exact rfl
  k_whole
  intro dp un gd fr base s0 L h1 hL hs X T B F N hd hu
  (try dsimp only [Nat.zero_add, Nat.reduceAdd] at hd hu)
  try dsimp only
  replace F : Fr H L h1 (fun y => if y = PySem.Str.ofString "mul" then some (.ref 205) else if y = PySem.Str.ofString "w" then some (.int w u) else if y = PySem.Str.ofString "base" then some (.int b t) else if y = PySem.Str.ofString "a" then some (.ref la) else none) := F
  (try k_fold)
  have hbl : (lm w b).length < 1000 := lm_len_base (by omega) (by omega) hb9
  have hx9 := lt_9000 (w := w) (by omega) hw9 hx hna
  k_steps
  rename_i lf hf Ff Nf l1f
  (unfold Hold; refine Does.useL (by assumption) (by assumption) B X T rfl rfl (nat_of_does W b w _ _ (by omega) hw hw9 (by omega) _) (by first | exact Sl.r1 hd (by decide +kernel) | (show dp + 1 + _ < recursionLimit; omega)) (by first | exact Sl.r1 hu (by decide +kernel) | (show un + 3 + _ < cLine; omega)) ?_)
  intro lp its nn h4 tk4 F4 N4 hne4 hi4
  have hlp := neN (hne4 _ (.head _))
  dsimp only at hlp
  k_steps
  unfold Hold
  refine' while_rule (σ := BP) (fun m c y => if y = Str.ofString "power" then some (.ref c.pp) else m y)
    (fun l c => (l, PySem.W.listOf c.vs.toArray c.n) :: (c.pp, PySem.W.listOf c.vp.toArray c.np) :: c.inner) (fun c => IntsAre c.vp (lm w (b ^ (2 ^ c.k))) ∧ (lm w (b ^ (2 ^ c.k))).length < 20000 ∧ PowIn w c.inner c.vs (pows b c.k) ∧ (∀ i, i < c.k → b ^ (2 ^ i) ≤ x) ∧ (∀ p ∈ (c.pp, PySem.W.listOf c.vp.toArray c.np) :: c.inner, p.1 ≠ lf)) (fun c => (x + 1 - b ^ (2 ^ c.k)).toNat) lf ⟨lp, its, nn, 0, [], 0, []⟩ ?F ?N ?hm ?hN ?hp ?turn PassesOwn.never
  case F => assumption
  case N => assumption
  case hm => (intro y; (try dsimp only); by_cases h0 : y = Str.ofString "power"; (case pos => first | exact (if_pos h0).trans (if_pos h0).symm | (subst h0; with_unfolding_all exact rfl) | (simp only [if_pos h0]; done) | (simp only [if_pos h0]; rfl) | (subst h0; with_unfolding_all exact rfl)); (case neg => (first | rfl | ((repeat refine (if_neg (by assumption)).trans ?_); (repeat refine Eq.trans ?_ (if_neg (by assumption)).symm); done) | ((repeat refine (if_neg (by assumption)).trans ?_); (repeat refine Eq.trans ?_ (if_neg (by assumption)).symm); with_reducible rfl) | (simp only [if_neg h0]; done) | (simp only [if_neg h0]; rfl))))
  case hN => (first | exact List.forall_mem_nil _ | exact List.forall_mem_cons.mpr ⟨by k_mem, List.forall_mem_nil _⟩ | exact List.forall_mem_cons.mpr ⟨by k_mem, List.forall_mem_cons.mpr ⟨by k_mem, List.forall_mem_nil _⟩⟩ | exact List.forall_mem_cons.mpr ⟨by k_mem, List.forall_mem_cons.mpr ⟨by k_mem, List.forall_mem_cons.mpr ⟨by k_mem, List.forall_mem_nil _⟩⟩⟩)
  case hp =>
    dsimp only
    rw [Nat.pow_zero, Int.pow_one]
    exact ⟨hi4, by omega, .nil, fun i hi => absurd hi (Nat.not_lt_zero _), List.forall_mem_cons.mpr ⟨Ne.symm hlp, List.forall_mem_nil _⟩⟩
  case turn =>
    rintro ⟨pp, vp, np, k, vs, n, inner⟩
    intro h5 tk5 K hK
    refine an5 (fun hi5 hl5 hpow hle hoff => ?_)
    intro F5 N5
    dsimp only at *
    (try k_fold)
    have hX2 := pow_ge2 hb k
    have hk14 : k ≤ 14 := by
      by_cases h0 : k = 0
      · omega
      · have := pow_big hb (hle (k - 1) (by omega)) hx9
        omega
    have hvl : vs.length = k := by rw [hpow.length, pows_length]
    have hvl2 : vs.length < 1000 := by omega
    k_steps
    (unfold Hold; refine Does.useI (by assumption) (by assumption) B X T rfl rfl (compare_does W _ _ _ _ (b ^ (2 ^ k)) x w _ (News.isList N5 (.tail _ (.head _))) hi5 (by is_list) hia (by omega) hx hw (by omega) (by omega)) (by first | exact Sl.r1 hd (by decide +kernel) | (show dp + 1 + _ < recursionLimit; omega)) (by first | exact Sl.r1 hu (by decide +kernel) | (show un + 3 + _ < cLine; omega)) ?_)
    intro t6 h6 tk6 F6 N6
    k_steps
    · (rename cmpI _ _ ≤ 0 => hc)
      have hXx := cmpI_le hc
      have hlX : (lm w (b ^ (2 ^ k))).length < 1000 := Nat.lt_of_le_of_lt (lm_len_mono (by omega) (by omega) hXx) hna
      have hlXX := lm_len_mul (w := w) (x := b ^ (2 ^ k)) (y := b ^ (2 ^ k)) (by omega) (by omega) (by omega)
      (rename News _ _ _ _ => N7)
      (unfold Hold; refine Does.useL (by assumption) (by assumption) B X T rfl rfl (law_mul_does W _ _ _ _ (b ^ (2 ^ k)) (b ^ (2 ^ k)) w _ _ (News.isList N7 (.tail _ (.head _))) hi5 (News.isList N7 (.tail _ (.head _))) hi5 (by omega) (by omega) hw hw9 (by omega) (by omega) (by omega)) (by first | exact Sl.r1 hd (by decide +kernel) | (show dp + 1 + _ < recursionLimit; omega)) (by first | exact Sl.r1 hu (by decide +kernel) | (show un + 3 + _ < cLine; omega)) ?_)
      intro l8 its8 n8 h8 tk8 F8 N8 hne8 hi8
      k_steps
      (rename Fr _ _ _ _ => F9); (rename News _ _ _ _ => N9)
      rw [List.push_toArray] at N9
      have hg := pow_grows hX2
      rw [pow_sq] at hg hi8 hlXX
      refine' hK _ _ (WPost.next ⟨l8, its8, n8, k + 1, vs ++ [.ref pp], n + 1, (pp, PySem.W.listOf vp.toArray np) :: inner⟩ F9 N9 ?ke ?kn ?kp ?km)
      case ke => (intro y; (try dsimp only); by_cases h0 : y = Str.ofString "power"; (case pos => first | exact (if_pos h0).trans (if_pos h0).symm | (subst h0; with_unfolding_all exact rfl) | (simp only [if_pos h0]; done) | (simp only [if_pos h0]; rfl) | (subst h0; with_unfolding_all exact rfl)); (case neg => (first | rfl | ((repeat refine (if_neg (by assumption)).trans ?_); (repeat refine Eq.trans ?_ (if_neg (by assumption)).symm); done) | ((repeat refine (if_neg (by assumption)).trans ?_); (repeat refine Eq.trans ?_ (if_neg (by assumption)).symm); with_reducible rfl) | (simp only [if_neg h0]; done) | (simp only [if_neg h0]; rfl))))
      case kn => exact List.forall_mem_cons.mpr ⟨.tail _ (.head _), List.forall_mem_cons.mpr ⟨.head _, fun p hp => .tail _ (.tail _ hp)⟩⟩
      case kp =>
        dsimp only
        refine ⟨hi8, by omega, ?_, fun i hi => ?_, List.forall_mem_cons.mpr ⟨Ne.symm (hne8 _ (.head _)), hoff⟩⟩
        · rw [pows_succ]
          exact (hpow.mono fun p hp => .tail _ hp).snoc (.head _) hi5
        · by_cases hik : i < k
          · exact hle i hik
          · rw [show i = k by omega]; exact hXx
      case km =>
        dsimp only
        omega
    · exact Fin.mk F6 ⟨k, hk14, hle, newPows_of N6 (.head _) (fun p hp => .tail _ (.tail _ hp)) hpow⟩
theorem digits_by_powers_does (W : Wd) (b w e : Int) (t u te : Tok) (hb : 2 ≤ b) (hb9 : b ≤ 70) (hw : 2 ≤ w) (hw9 : w ≤ 9) (x0 : Int) (hx0 : (dig b.toNat x0.toNat).length < 10000) (hn0 : (lm w x0).length < 1000) : ∀ (k : Nat) (la lp : Addr) (va vp : List Value) (x : Int) (H : Heap) (_ : k ≤ 14) (_ : ∀ i, i < k → b ^ (2 ^ i) ≤ x0) (_ : H.IsList la va.toArray) (_ : IntsAre va (lm w x)) (_ : H.IsList lp vp.toArray) (_ : PowsAt w H vp (pows b k)) (_ : 0 ≤ x) (_ : x ≤ x0),
    Does W (5 + k) (40 + 8 * k) 142 [.ref la, .ref lp, .int b t, .int w u, .int e te, .ref 219] H (fun h' v => NewInts H h' (dig b.toNat x.toNat).reverse v) := by
  w_top off
  intro k
  induction k with
  | zero =>
    intro la lp va vp x H hk hpx hla hia hlp hP hx hxx
    have hvl : vp.length = 0 := by rw [hP.length, pows_length]
    have hRL : RL vp := ⟨⟩
    have hna : (lm w x).length < 1000 := Nat.lt_of_le_of_lt (lm_len_mono (by omega) hx hxx) hn0
    have hdl : (dig b.toNat x.toNat).length < 1048576 := by have := dig_len_mono (B := b.toNat) (by omega) (show x.toNat ≤ x0.toNat by omega); omega
    show Does W 5 40 142 _ _ _
    refine fill _ W.w ?_
    k_fill
    intro _
    refine' Does.enter (binds := [(PySem.Str.ofString "a", .ref la), (PySem.Str.ofString "powers", .ref lp), (PySem.Str.ofString "base", .int b t), (PySem.Str.ofString "w", .int w u), (PySem.Str.ofString "least", .int e te), (PySem.Str.ofString "divrem", .ref 219)]) ?k6 ?k7 ?k9 ?kB ?_ ?c2 ?c3 ?c4 ?c5
    case k6 => k_is
    case k7 => k_is
    case k9 => (intro _; exact BindsTo.of_eq rfl)
    case c5 => decide
    case kB => exact locs rfl
    case c2 => exact rfl
    case c3 => exact rfl
    case c4 => exact rfl
    k_whole
    intro dp un gd fr base s0 L h1 hL hs X T B F N hd hu
    (try dsimp only [Nat.zero_add, Nat.reduceAdd] at hd hu)
    try dsimp only
    replace F : Fr H L h1 (fun y => if y = PySem.Str.ofString "divrem" then some (.ref 219) else if y = PySem.Str.ofString "least" then some (.int e te) else if y = PySem.Str.ofString "w" then some (.int w u) else if y = PySem.Str.ofString "base" then some (.int b t) else if y = PySem.Str.ofString "powers" then some (.ref lp) else if y = PySem.Str.ofString "a" then some (.ref la) else none) := F
    (try k_fold)
    k_steps
    · (unfold Hold; refine Does.useL (by assumption) (by assumption) B X T rfl rfl (digits_plain_does W _ _ x b w _ _ _ (by is_list) hia hx hb hb9 hw hw9 (by omega) hdl) (by first | exact Sl.r1 hd (by decide +kernel) | (show dp + 1 + _ < recursionLimit; omega)) (by first | exact Sl.r1 hu (by decide +kernel) | (show un + 3 + _ < cLine; omega)) ?_)
      intro l its n h4 tk4 F4 N4 hne4 hi4
      k_steps
      exact Fin.mk F4 (newInts_of N4 (.head _) hi4)
    · (unfold Hold; refine Does.useL (by assumption) (by assumption) B X T rfl rfl (digits_plain_does W _ _ x b w _ _ _ (by is_list) hia hx hb hb9 hw hw9 (by omega) hdl) (by first | exact Sl.r1 hd (by decide +kernel) | (show dp + 1 + _ < recursionLimit; omega)) (by first | exact Sl.r1 hu (by decide +kernel) | (show un + 3 + _ < cLine; omega)) ?_)
      intro l its n h4 tk4 F4 N4 hne4 hi4
      k_steps
      exact Fin.mk F4 (newInts_of N4 (.head _) hi4)
  | succ k ih =>
    intro la lp va vp x H hk hpx hla hia hlp hP hx hxx
    have hvl : vp.length = k + 1 := by rw [hP.length, pows_length]
    have hRL : RL vp := ⟨⟩
    have hna : (lm w x).length < 1000 := Nat.lt_of_le_of_lt (lm_len_mono (by omega) hx hxx) hn0
    have hdl : (dig b.toNat x.toNat).length < 1048576 := by have := dig_len_mono (B := b.toNat) (by omega) (show x.toNat ≤ x0.toNat by omega); omega
    obtain ⟨pp, ip, hget, hlpp, hipp⟩ := hP.get (pows_get (b := b) (Nat.lt_succ_self k))
    have hgx : vp[((-1 : Int) + (vp.length : Int)).toNat]? = some (.ref pp) := by rw [hvl, show ((-1 : Int) + ((k + 1 : Nat) : Int)).toNat = k by omega]; exact hget
    have hPX := hpx k (Nat.lt_succ_self k)
    have hX2 := pow_ge2 hb k
    have hpl : (lm w (b ^ (2 ^ k))).length < 1000 := Nat.lt_of_le_of_lt (lm_len_mono (by omega) (by omega) hPX) hn0
    show Does W (5 + k + 1) (40 + 8 * k + 8) 142 _ _ _
    refine fill _ W.w ?_
    k_fill
    intro _
    refine' Does.enter (binds := [(PySem.Str.ofString "a", .ref la), (PySem.Str.ofString "powers", .ref lp), (PySem.Str.ofString "base", .int b t), (PySem.Str.ofString "w", .int w u), (PySem.Str.ofString "least", .int e te), (PySem.Str.ofString "divrem", .ref 219)]) ?k6 ?k7 ?k9 ?kB ?_ ?c2 ?c3 ?c4 ?c5
    case k6 => k_is
    case k7 => k_is
    case k9 => (intro _; exact BindsTo.of_eq rfl)
    case c5 => decide
    case kB => exact locs rfl
    case c2 => exact rfl
    case c3 => exact rfl
    case c4 => exact rfl
    k_whole
    intro dp un gd fr base s0 L h1 hL hs X T B F N hd hu
    (try dsimp only [Nat.zero_add, Nat.reduceAdd] at hd hu)
    try dsimp only
    replace F : Fr H L h1 (fun y => if y = PySem.Str.ofString "divrem" then some (.ref 219) else if y = PySem.Str.ofString "least" then some (.int e te) else if y = PySem.Str.ofString "w" then some (.int w u) else if y = PySem.Str.ofString "base" then some (.int b t) else if y = PySem.Str.ofString "powers" then some (.ref lp) else if y = PySem.Str.ofString "a" then some (.ref la) else none) := F
    (try k_fold)
    have hk13 : 2 ^ k ≤ 2 ^ 13 := Nat.pow_le_pow_right (by omega) (by omega)
    have htk : vp.length - (-(-1 : Int)).toNat = k := by omega
    have hmany : (1 : Int) * 2 ^ ((vp.length : Int) - 1).toNat = ((2 ^ k : Nat) : Int) := by
      rw [Int.one_mul, hvl, show (((k + 1 : Nat) : Int) - 1).toNat = k by omega, two_pow_cast]
    have hPk : PowsAt w H (vp.take k) (pows b k) := by
      have := hP.take k
      rw [pows_take] at this
      exact this
    k_steps
    · (unfold Hold; refine Does.useL (by assumption) (by assumption) B X T rfl rfl (digits_plain_does W _ _ x b w _ _ _ (by is_list) hia hx hb hb9 hw hw9 (by omega) hdl) (by first | exact Sl.r1 hd (by decide +kernel) | (show dp + 1 + _ < recursionLimit; omega)) (by first | exact Sl.r1 hu (by decide +kernel) | (show un + 3 + _ < cLine; omega)) ?_)
      intro l its n h4 tk4 F4 N4 hne4 hi4
      k_steps
      exact Fin.mk F4 (newInts_of N4 (.head _) hi4)
    · exfalso; omega
    · (rename Fr _ _ _ _ => F3); (rename News _ _ _ _ => N3)
      rw [htk] at N3
      rw [hmany] at F3 N3
      (unfold Hold; refine Does.useI (by assumption) (by assumption) B X T rfl rfl (compare_does W _ _ _ _ x (b ^ (2 ^ k)) w _ (by is_list) hia (by is_list) hipp hx (by omega) hw (by omega) (by omega)) (by first | exact Sl.r1 hd (by decide +kernel) | (show dp + 1 + _ < recursionLimit; omega)) (by first | exact Sl.r1 hu (by decide +kernel) | (show un + 3 + _ < cLine; omega)) ?_)
      intro t4 h4 tk4 F4 N4
      k_steps
      · (unfold Hold; refine Does.useL (by assumption) (by assumption) B X T rfl rfl (ih _ _ _ _ x _ (by omega) (fun i hi => hpx i (by omega)) (by is_list) hia (by is_list) (hPk.keeps F4.keep) hx hxx) (by first | exact Sl.r1 hd (by decide +kernel) | (show dp + 1 + _ < recursionLimit; omega)) (by first | exact Sl.r1 hu (by decide +kernel) | (show un + 3 + _ < cLine; omega)) ?_)
        intro l its n h5 tk5 F5 N5 hne5 hi5
        k_steps
        exact Fin.mk F5 (newInts_of N5 (.head _) hi5)
      · (rename ¬ cmpI _ _ < 0 => hc)
        have hXx := cmpI_ge hc
        have hq0 := Int.ediv_nonneg hx (show 0 ≤ b ^ (2 ^ k) by omega)
        have hqx := Int.ediv_le_self (a := x) (b ^ (2 ^ k)) hx
        have hr0 := Int.emod_nonneg x (show b ^ (2 ^ k) ≠ 0 by omega)
        have hrx := emod_le_self (y := b ^ (2 ^ k)) hx (by omega)
        obtain ⟨hjoin, hlow⟩ := dig_join (k := k) hb hx hXx
        have hhl : (dig b.toNat (x / b ^ (2 ^ k)).toNat).length < 10000 := by have := dig_len_mono (B := b.toNat) (by omega) (show (x / b ^ (2 ^ k)).toNat ≤ x0.toNat by omega); omega
        (unfold Hold; refine Does.useT (by assumption) (by assumption) B X T rfl rfl (law_divrem_does W _ _ _ _ x (b ^ (2 ^ k)) w _ _ (by is_list) hia (by is_list) hipp hx (by omega) hw hw9 (by omega) hpl) (by first | exact Sl.r1 hd (by decide +kernel) | (show dp + 1 + _ < recursionLimit; omega)) (by first | exact Sl.r1 hu (by decide +kernel) | (show un + 3 + _ < cLine; omega)) ?_)
        intro p l1 l2 its1 its2 n1 n2 k5 h5 tk5 F5 N5 hp5 hl5 hl5' hpl5 hpl5' hll5 hi5 hi5'
        k_steps
        (rename Fr _ _ _ _ => F6); (rename News _ _ _ _ => N6)
        (unfold Hold; refine Does.useL (by assumption) (by assumption) B X T rfl rfl (ih _ _ _ _ (x / b ^ (2 ^ k)) _ (by omega) (fun i hi => hpx i (by omega)) (by is_list) hi5 (by is_list) (hPk.keeps F6.keep) hq0 (by omega)) (by first | exact Sl.r1 hd (by decide +kernel) | (show dp + 1 + _ < recursionLimit; omega)) (by first | exact Sl.r1 hu (by decide +kernel) | (show un + 3 + _ < cLine; omega)) ?_)
        intro l7 its7 n7 h7 tk7 F7 N7 hne7 hi7
        k_steps
        (rename Fr _ _ _ _ => F8); (rename News _ _ _ _ => N8)
        (unfold Hold; refine Does.useL (by assumption) (by assumption) B X T rfl rfl (ih _ _ _ _ (x % b ^ (2 ^ k)) _ (by omega) (fun i hi => hpx i (by omega)) (by is_list) hi5' (by is_list) (hPk.keeps F8.keep) hr0 (by omega)) (by first | exact Sl.r1 hd (by decide +kernel) | (show dp + 1 + _ < recursionLimit; omega)) (by first | exact Sl.r1 hu (by decide +kernel) | (show un + 3 + _ < cLine; omega)) ?_)
        intro l9 its9 n9 h9 tk9 F9 N9 hne9 hi9
        k_steps
        (rename Fr _ _ _ _ => F10); (rename News _ _ _ _ => N10)
        (unfold Hold; refine Does.useL (by assumption) (by assumption) B X T rfl rfl (with_noughts_does W _ _ _ ((2 ^ k : Nat) : Int) _ _ (by is_list) hi9 (by rw [List.length_reverse]; omega) (by omega) (by omega)) (by first | exact Sl.r1 hd (by decide +kernel) | (show dp + 1 + _ < recursionLimit; omega)) (by first | exact Sl.r1 hu (by decide +kernel) | (show un + 3 + _ < cLine; omega)) ?_)
        intro l11 its11 n11 h11 tk11 F11 N11 hne11 hi11
        rw [Int.toNat_natCast] at hi11
        obtain ⟨D1, hD1⟩ : ∃ D, D = (dig b.toNat (x / b ^ (2 ^ k)).toNat).reverse := ⟨_, rfl⟩
        obtain ⟨D2, hD2⟩ : ∃ D, D = (List.replicate (2 ^ k - (dig b.toNat (x % b ^ (2 ^ k)).toNat).reverse.length) 0 ++ (dig b.toNat (x % b ^ (2 ^ k)).toNat).reverse) := ⟨_, rfl⟩
        have hD1l : D1.length < 10000 := by rw [hD1, List.length_reverse]; exact hhl
        have hD2l : D2.length < 20000 := by rw [hD2, List.length_append, List.length_replicate, List.length_reverse]; omega
        rw [← hD1] at hi7 hjoin
        rw [← hD2] at hi11 hjoin
        k_steps
        (rename Fr _ _ _ _ => F12); (rename News _ _ _ _ => N12); (rename IntsAre _ (D1 ++ D2) => hI)
        rw [hjoin] at hI
        exact Fin.mk F12 (newInts_of N12 (.head _) hI)
theorem Does.usePows {W : Wd} {d u : Nat} {f : Addr} {vs : List Value} {A : Around} {fr : List Env} {base h₀ : Heap} {L : Addr} {m : Str → Option Value} {news : List (Addr × Obj)} {s : Shared} {Q E : Value → Shared → Prop}
    {cn : Str} {cs : Scope} {a : Addr} {cd : Value} {w : Int} {Xs : Nat → List Int} {Z : Nat → Prop} (F : Fr h₀ L s.heap m) (N : News h₀ L s.heap news) (B : Below A base fr h₀) (X : (hd.heap_39 W.w.params).In h₀) (T : Top hd.view_39 (looseW hd.view_39 []) W.mean W.mg W.mb h₀) (hk : cs.kind = .function) (hh : A.handled = none)
    (D : Does W d u f vs s.heap (fun h' v => ∃ k, k ≤ 14 ∧ Z k ∧ NewPows s.heap h' w (Xs k) v)) (hd : A.depth + 1 + d < recursionLimit) (hu : A.units + 3 + u < cLine)
    (k : ∀ j l its n inner h' tk, j ≤ 14 → Z j → Fr h₀ L h' m → News h₀ L h' ((l, PySem.W.listOf (List.toArray its) n) :: inner) → PowIn w inner its (Xs j) → Q (.ref l) { s with heap := h', toks := tk }) :
    wpAny (model PySem.Challenge.rw_nn0010_01.row.prog W.w) (A.deeper (envOf cn cs L a cd)) (call (.ref f) vs) Q E s :=
  Does.use F N B X T hk hh D hd hu fun v h' tk F' N' _ _ _ r => by
    obtain ⟨j, hj, hz, l, its, n, inner, rfl, hf, ho, hin, hp⟩ := r
    refine k j l its n inner h' tk hj hz F' (fun p hp => ?_) hp
    rcases List.mem_cons.mp hp with rfl | hp
    · exact news_new (news := []) F (fun _ h => nomatch h) hf ho _ (.head _)
    · have := hin p hp
      exact news_new (news := []) F (fun _ h => nomatch h) this.1 this.2 _ (.head _)
theorem to_digits_does (W : Wd) (la : Addr) (va : List Value) (x b w e : Int) (t u te : Tok) (H : Heap) (hla : H.IsList la va.toArray) (hia : IntsAre va (lm w x)) (hx : 0 ≤ x) (hb : 2 ≤ b) (hb9 : b ≤ 70) (hw : 2 ≤ w) (hw9 : w ≤ 9)
    (hna : (lm w x).length < 1000) (hdl : (dig b.toNat x.toNat).length < 10000) : Does W 21 170 149 [.ref la, .int b t, .int w u, .int e te, .ref 219, .ref 205] H (fun h' v => NewInts H h' (dig b.toNat x.toNat).reverse v) := by
  w_top off
  refine fill _ W.w ?_
  k_fill
  intro _
  refine' Does.enter (binds := [(PySem.Str.ofString "a", .ref la), (PySem.Str.ofString "base", .int b t), (PySem.Str.ofString "w", .int w u), (PySem.Str.ofString "least", .int e te), (PySem.Str.ofString "divrem", .ref 219), (PySem.Str.ofString "mul", .ref 205)]) ?k6 ?k7 ?k9 ?kB ?_ ?c2 ?c3 ?c4 ?c5
  case k6 => k_is
  case k7 => k_is
  case k9 => (intro _; exact BindsTo.of_eq rfl)
  case c5 => decide
  case kB => exact locs rfl
  case c2 => exact rfl
  case c3 => exact rfl
  case c4 => exact rfl
  k_whole
  intro dp un gd fr base s0 L h1 hL hs X T B F N hd hu
  (try dsimp only [Nat.zero_add, Nat.reduceAdd] at hd hu)
  try dsimp only
  replace F : Fr H L h1 (fun y => if y = PySem.Str.ofString "mul" then some (.ref 205) else if y = PySem.Str.ofString "divrem" then some (.ref 219) else if y = PySem.Str.ofString "least" then some (.int e te) else if y = PySem.Str.ofString "w" then some (.int w u) else if y = PySem.Str.ofString "base" then some (.int b t) else if y = PySem.Str.ofString "a" then some (.ref la) else none) := F
  (try k_fold)
  k_steps
  (unfold Hold; refine Does.useV (by assumption) (by assumption) B X T rfl rfl (check_base_does W b _ hb _) (by first | exact Sl.r1 hd (by decide +kernel) | (show dp + 1 + _ < recursionLimit; omega)) (by first | exact Sl.r1 hu (by decide +kernel) | (show un + 3 + _ < cLine; omega)) ?_)
  rintro _ h2 tk2 F2 N2 rfl
  k_steps
  · (unfold Hold; refine Does.usePows (by assumption) (by assumption) B X T rfl rfl (base_powers_does W _ _ x b w _ _ _ (by is_list) hia hx hb hb9 hw hw9 hna) (by first | exact Sl.r1 hd (by decide +kernel) | (show dp + 1 + _ < recursionLimit; omega)) (by first | exact Sl.r1 hu (by decide +kernel) | (show un + 3 + _ < cLine; omega)) ?_)
    intro k l its n inner h4 tk4 hk hz F4 N4 hP
    k_steps
    (rename Fr _ _ _ _ => F5); (rename News _ _ _ _ => N5)
    (unfold Hold; refine Does.useL (by assumption) (by assumption) B X T rfl rfl (digits_by_powers_does W b w e _ _ _ hb hb9 hw hw9 x hdl hna k _ _ _ _ x _ hk hz (by is_list) hia (News.isList N5 (.head _)) (hP.at N5 fun p hp => .tail _ hp) hx (Int.le_refl _)) (by first | exact Sl.r1 hd (by decide +kernel) | (show dp + 1 + _ < recursionLimit; omega)) (by first | exact Sl.r1 hu (by decide +kernel) | (show un + 3 + _ < cLine; omega)) ?_)
    intro l7 its7 n7 h7 tk7 F7 N7 hne7 hi7
    k_steps
    exact Fin.mk F7 (newInts_of N7 (.head _) hi7)
  · (rename Fr _ _ _ _ => F5); (rename News _ _ _ _ => N5)
    (unfold Hold; refine Does.useL (by assumption) (by assumption) B X T rfl rfl (digits_by_powers_does W b w e _ _ _ hb hb9 hw hw9 x hdl hna 0 _ _ _ _ x _ (by omega) (fun i hi => absurd hi (Nat.not_lt_zero _)) (by is_list) hia (News.isList N5 (.head _)) .nil hx (Int.le_refl _)) (by first | exact Sl.r1 hd (by decide +kernel) | (show dp + 1 + _ < recursionLimit; omega)) (by first | exact Sl.r1 hu (by decide +kernel) | (show un + 3 + _ < cLine; omega)) ?_)
    intro l7 its7 n7 h7 tk7 F7 N7 hne7 hi7
    k_steps
    exact Fin.mk F7 (newInts_of N7 (.head _) hi7)
theorem number_by_powers_does (W : Wd) (b w e : Int) (t u te : Tok) (k : Nat) (hk : k ≤ 14) (hb : 2 ≤ b) (hb9 : b ≤ 70) (hw : 2 ≤ w) (hw9 : w ≤ 9) : ∀ (n : Nat) (la lp : Addr) (va vp : List Value) (ds : List Int) (H : Heap) (_ : ds.length < n) (_ : ds.length < 1000) (_ : H.IsList la va.toArray) (_ : IntsAre va ds) (_ : H.IsList lp vp.toArray) (_ : PowsAt w H vp (pows b k)) (_ : ∀ d ∈ ds, 0 ≤ d ∧ d < b),
    Does W (5 + n) (40 + 8 * n) 170 [.ref la, .ref lp, .int b t, .int w u, .int e te, .ref 205] H (fun h' v => NewInts H h' (lm w (worth b ds)) v) := by
  w_top off
  intro n
  induction n with
  | zero => intro la lp va vp ds H hn; exact absurd hn (Nat.not_lt_zero _)
  | succ n ih =>
    intro la lp va vp ds H hn hds1000 hla hia hlp hP hds
    have hvl : vp.length = k := by rw [hP.length, pows_length]
    have hRL : RL vp := ⟨⟩
    have hW0 := worth_nn (b := b) (by omega) hds
    have hWl : (lm w (worth b ds)).length ≤ 7000 := pow_len (by omega) (by omega) hb9 hds1000 (Int.le_of_lt (worth_lt_all hb hds))
    show Does W (5 + n + 1) (40 + 8 * n + 8) 170 _ _ _
    refine fill _ W.w ?_
    k_fill
    intro _
    refine' Does.enter (binds := [(PySem.Str.ofString "digits", .ref la), (PySem.Str.ofString "powers", .ref lp), (PySem.Str.ofString "base", .int b t), (PySem.Str.ofString "w", .int w u), (PySem.Str.ofString "least", .int e te), (PySem.Str.ofString "mul", .ref 205)]) ?k6 ?k7 ?k9 ?kB ?_ ?c2 ?c3 ?c4 ?c5
    case k6 => k_is
    case k7 => k_is
    case k9 => (intro _; exact BindsTo.of_eq rfl)
    case c5 => decide
    case kB => exact locs rfl
    case c2 => exact rfl
    case c3 => exact rfl
    case c4 => exact rfl
    k_whole
    intro dp un gd fr base s0 L h1 hL hs X T B F N hd hu
    (try dsimp only [Nat.zero_add, Nat.reduceAdd] at hd hu)
    try dsimp only
    replace F : Fr H L h1 (fun y => if y = PySem.Str.ofString "mul" then some (.ref 205) else if y = PySem.Str.ofString "least" then some (.int e te) else if y = PySem.Str.ofString "w" then some (.int w u) else if y = PySem.Str.ofString "base" then some (.int b t) else if y = PySem.Str.ofString "powers" then some (.ref lp) else if y = PySem.Str.ofString "digits" then some (.ref la) else none) := F
    (try k_fold)
    k_steps
    unfold Hold
    refine' while_rule (σ := Int × Tok) (fun m c y => if y = Str.ofString "at" then some (.int c.1 c.2) else m y)
      (fun l c => []) (fun c => -1 ≤ c.1 ∧ c.1 < (k : Int)) (fun c => (c.1 + 1).toNat) 0 ((vp.length : Int) - 1, _) ?F ?N ?hm ?hN ?hp ?turn PassesOwn.never
    case F => assumption
    case N => assumption
    case hm => (intro y; (try dsimp only); by_cases h0 : y = Str.ofString "at"; (case pos => first | exact (if_pos h0).trans (if_pos h0).symm | (subst h0; with_unfolding_all exact rfl) | (simp only [if_pos h0]; done) | (simp only [if_pos h0]; rfl) | (subst h0; with_unfolding_all exact rfl)); (case neg => (first | rfl | ((repeat refine (if_neg (by assumption)).trans ?_); (repeat refine Eq.trans ?_ (if_neg (by assumption)).symm); done) | ((repeat refine (if_neg (by assumption)).trans ?_); (repeat refine Eq.trans ?_ (if_neg (by assumption)).symm); with_reducible rfl) | (simp only [if_neg h0]; done) | (simp only [if_neg h0]; rfl))))
    case hN => (first | exact List.forall_mem_nil _ | exact List.forall_mem_cons.mpr ⟨by k_mem, List.forall_mem_nil _⟩ | exact List.forall_mem_cons.mpr ⟨by k_mem, List.forall_mem_cons.mpr ⟨by k_mem, List.forall_mem_nil _⟩⟩ | exact List.forall_mem_cons.mpr ⟨by k_mem, List.forall_mem_cons.mpr ⟨by k_mem, List.forall_mem_cons.mpr ⟨by k_mem, List.forall_mem_nil _⟩⟩⟩)
    case hp => exact ⟨by omega, by omega⟩
    case turn =>
      refine pr2 (fun q tq => ?_)
      intro h3 tk3 K hK
      refine an2 (fun hq0 hqk => ?_)
      intro F3 N3
      dsimp only at *
      (try k_fold)
      by_cases hq : 0 ≤ q
      · obtain ⟨j, rfl⟩ := Int.eq_ofNat_of_zero_le hq
        have hjk : j < k := by omega
        obtain ⟨pp, ip, hget, hlpp, hipp⟩ := hP.get (pows_get (b := b) hjk)
        have hgx : vp[((j : Nat) : Int).toNat]? = some (.ref pp) := by rw [Int.toNat_natCast]; exact hget
        have h2j : (1 : Int) * 2 ^ ((j : Nat) : Int).toNat = ((2 ^ j : Nat) : Int) := by rw [Int.one_mul, Int.toNat_natCast, two_pow_cast]
        have h2p : 0 < 2 ^ j := Nat.two_pow_pos j
        have hj13 : 2 ^ j ≤ 2 ^ 13 := Nat.pow_le_pow_right (by omega) (by omega)
        k_steps
        · (rename Fr _ _ _ _ => F4); (rename News _ _ _ _ => N4)
          refine' hK _ _ (WPost.next (_, _) F4 N4 ?ke ?kn ?kp ?km)
          case ke => (intro y; (try dsimp only); by_cases h0 : y = Str.ofString "at"; (case pos => first | exact (if_pos h0).trans (if_pos h0).symm | (subst h0; with_unfolding_all exact rfl) | (simp only [if_pos h0]; done) | (simp only [if_pos h0]; rfl) | (subst h0; with_unfolding_all exact rfl)); (case neg => (first | rfl | ((repeat refine (if_neg (by assumption)).trans ?_); (repeat refine Eq.trans ?_ (if_neg (by assumption)).symm); done) | ((repeat refine (if_neg (by assumption)).trans ?_); (repeat refine Eq.trans ?_ (if_neg (by assumption)).symm); with_reducible rfl) | (simp only [if_neg h0]; done) | (simp only [if_neg h0]; rfl))))
          case kn => (first | exact List.forall_mem_nil _ | exact List.forall_mem_cons.mpr ⟨by k_mem, List.forall_mem_nil _⟩ | exact List.forall_mem_cons.mpr ⟨by k_mem, List.forall_mem_cons.mpr ⟨by k_mem, List.forall_mem_nil _⟩⟩ | exact List.forall_mem_cons.mpr ⟨by k_mem, List.forall_mem_cons.mpr ⟨by k_mem, List.forall_mem_cons.mpr ⟨by k_mem, List.forall_mem_nil _⟩⟩⟩)
          case kp => exact ⟨by dsimp only; omega, by dsimp only; omega⟩
          case km => (dsimp only; omega)
        · (unfold Hold; refine Does.useL (by assumption) (by assumption) B X T rfl rfl (number_plain_does W _ _ ds b w _ _ _ (by is_list) hia hds hb hb9 hw hw9 (by omega) (by omega)) (by first | exact Sl.r1 hd (by decide +kernel) | (show dp + 1 + _ < recursionLimit; omega)) (by first | exact Sl.r1 hu (by decide +kernel) | (show un + 3 + _ < cLine; omega)) ?_)
          intro l its n h4 tk4 F4 N4 hne4 hi4
          k_steps
          exact Fin.mk F4 (newInts_of N4 (.head _) hi4)
        · (rename ¬ (ds.length : Int) ≤ 1 * 2 ^ _ => hlt); (rename IntsAre _ (List.take _ ds) => hI)
          rw [h2j] at hlt hI
          have hm : ((ds.length : Int) - ((2 ^ j : Nat) : Int)).toNat = ds.length - 2 ^ j := by omega
          rw [hm] at hI
          have htl : (ds.take (ds.length - 2 ^ j)).length = ds.length - 2 ^ j := by rw [List.length_take]; omega
          have hdl : (ds.drop (ds.length - 2 ^ j)).length = 2 ^ j := by rw [List.length_drop]; omega
          have hdt : ∀ d ∈ ds.take (ds.length - 2 ^ j), 0 ≤ d ∧ d < b := fun d hd => hds d (List.mem_of_mem_take hd)
          have hdd : ∀ d ∈ ds.drop (ds.length - 2 ^ j), 0 ≤ d ∧ d < b := fun d hd => hds d (List.mem_of_mem_drop hd)
          have hwa := worth_append b (ds.take (ds.length - 2 ^ j)) (ds.drop (ds.length - 2 ^ j))
          rw [List.take_append_drop, hdl] at hwa
          have hA0 := worth_nn (b := b) (by omega) hdt
          have hC0 := worth_nn (b := b) (by omega) hdd
          have hP2 := pow_ge2 hb j
          have hAP := Int.mul_nonneg hA0 (show 0 ≤ b ^ (2 ^ j) by omega)
          have hAl : (lm w (worth b (ds.take (ds.length - 2 ^ j)))).length ≤ 7000 := pow_len (by omega) (by omega) hb9 (by omega) (Int.le_of_lt (worth_lt_all hb hdt))
          have hCl : (lm w (worth b (ds.drop (ds.length - 2 ^ j)))).length ≤ 7000 := pow_len (by omega) (by omega) hb9 (by omega) (Int.le_of_lt (worth_lt_all hb hdd))
          have hPl : (lm w (b ^ (2 ^ j))).length ≤ 7000 := pow_len (n := 2 ^ j) (by omega) (by omega) hb9 (by omega) (Int.le_refl _)
          have hAPl := lm_len_mul (w := w) (x := worth b (ds.take (ds.length - 2 ^ j))) (y := b ^ (2 ^ j)) (by omega) hA0 (by omega)
          (rename Fr _ _ _ _ => F4); (rename News _ _ _ _ => N4)
          (unfold Hold; refine Does.useL (by assumption) (by assumption) B X T rfl rfl (ih _ _ _ _ (ds.take (ds.length - 2 ^ j)) _ (by omega) (by omega) (by is_list) hI (by is_list) (hP.keeps F4.keep) hdt) (by first | exact Sl.r1 hd (by decide +kernel) | (show dp + 1 + _ < recursionLimit; omega)) (by first | exact Sl.r1 hu (by decide +kernel) | (show un + 3 + _ < cLine; omega)) ?_)
          intro l5 its5 n5 h5 tk5 F5 N5 hne5 hi5
          k_steps
          (rename Fr _ _ _ _ => F6); (rename News _ _ _ _ => N6); (rename IntsAre _ (List.drop _ ds) => hI2)
          rw [h2j, hm] at hI2
          (unfold Hold; refine Does.useL (by assumption) (by assumption) B X T rfl rfl (ih _ _ _ _ (ds.drop (ds.length - 2 ^ j)) _ (by omega) (by omega) (by is_list) hI2 (by is_list) (hP.keeps F6.keep) hdd) (by first | exact Sl.r1 hd (by decide +kernel) | (show dp + 1 + _ < recursionLimit; omega)) (by first | exact Sl.r1 hu (by decide +kernel) | (show un + 3 + _ < cLine; omega)) ?_)
          intro l7 its7 n7 h7 tk7 F7 N7 hne7 hi7
          k_steps
          (unfold Hold; refine Does.useL (by assumption) (by assumption) B X T rfl rfl (law_mul_does W _ _ _ _ (worth b (ds.take (ds.length - 2 ^ j))) (b ^ (2 ^ j)) w _ _ (by is_list) hi5 (by is_list) hipp hA0 (by omega) hw hw9 (by omega) (by omega) (by omega)) (by first | exact Sl.r1 hd (by decide +kernel) | (show dp + 1 + _ < recursionLimit; omega)) (by first | exact Sl.r1 hu (by decide +kernel) | (show un + 3 + _ < cLine; omega)) ?_)
          intro l8 its8 n8 h8 tk8 F8 N8 hne8 hi8
          k_steps
          (unfold Hold; refine Does.useL (by assumption) (by assumption) B X T rfl rfl (add_does W _ _ _ _ (worth b (ds.take (ds.length - 2 ^ j)) * b ^ (2 ^ j)) (worth b (ds.drop (ds.length - 2 ^ j))) w _ _ (by is_list) hi8 (by is_list) hi7 hAP hC0 hw hw9 (by omega) (by omega) (by rw [← hwa]; omega)) (by first | exact Sl.r1 hd (by decide +kernel) | (show dp + 1 + _ < recursionLimit; omega)) (by first | exact Sl.r1 hu (by decide +kernel) | (show un + 3 + _ < cLine; omega)) ?_)
          intro l9 its9 n9 h9 tk9 F9 N9 hne9 hi9
          rw [← hwa] at hi9
          k_steps
          exact Fin.mk F9 (newInts_of N9 (.head _) hi9)
      · k_steps
        · (unfold Hold; refine Does.useL (by assumption) (by assumption) B X T rfl rfl (number_plain_does W _ _ ds b w _ _ _ (by is_list) hia hds hb hb9 hw hw9 (by omega) (by omega)) (by first | exact Sl.r1 hd (by decide +kernel) | (show dp + 1 + _ < recursionLimit; omega)) (by first | exact Sl.r1 hu (by decide +kernel) | (show un + 3 + _ < cLine; omega)) ?_)
          intro l its n h4 tk4 F4 N4 hne4 hi4
          k_steps
          exact Fin.mk F4 (newInts_of N4 (.head _) hi4)
        · (unfold Hold; refine Does.useL (by assumption) (by assumption) B X T rfl rfl (number_plain_does W _ _ ds b w _ _ _ (by is_list) hia hds hb hb9 hw hw9 (by omega) (by omega)) (by first | exact Sl.r1 hd (by decide +kernel) | (show dp + 1 + _ < recursionLimit; omega)) (by first | exact Sl.r1 hu (by decide +kernel) | (show un + 3 + _ < cLine; omega)) ?_)
          intro l its n h4 tk4 F4 N4 hne4 hi4
          k_steps
          exact Fin.mk F4 (newInts_of N4 (.head _) hi4)
theorem PowIn.get {w : Int} {inner : List (Addr × Obj)} {vs : List Value} {Xs : List Int} (P : PowIn w inner vs Xs) : ∀ {i : Nat} {X : Int}, Xs[i]? = some X → ∃ p its n, vs[i]? = some (.ref p) ∧ (p, PySem.W.listOf (List.toArray its) n) ∈ inner ∧ IntsAre its (lm w X) := by
  w_top off
  induction P with
  | nil => intro i X e; simp at e
  | cons hl hi _ ih =>
    intro i X e
    cases i with
    | zero => simp at e; subst e; exact ⟨_, _, _, rfl, hl, hi⟩
    | succ i => exact ih (i := i) (by simpa using e)
structure FP where
  k : Nat
  vs : List Value
  n : Nat
  inner : List (Addr × Obj)
theorem ex_addr {H h : Heap} {L l : Addr} {o : Obj} {r : List (Addr × Obj)} (_ : News H L h ((l, o) :: r)) : ∃ l', l' = l := ⟨l, rfl⟩
theorem from_digits_does (W : Wd) (la : Addr) (va : List Value) (ds : List Int) (b w e : Int) (t u te : Tok) (H : Heap) (hla : H.IsList la va.toArray) (hia : IntsAre va ds) (hds : ∀ d ∈ ds, 0 ≤ d ∧ d < b) (hb : 2 ≤ b) (hb9 : b ≤ 70) (hw : 2 ≤ w) (hw9 : w ≤ 9)
    (hna : ds.length < 100) : Does W 110 900 177 [.ref la, .int b t, .int w u, .int e te, .ref 205] H (fun h' v => NewInts H h' (lm w (worth b ds)) v) := by
  w_top off
  refine fill _ W.w ?_
  k_fill
  intro _
  refine' Does.enter (binds := [(PySem.Str.ofString "digits", .ref la), (PySem.Str.ofString "base", .int b t), (PySem.Str.ofString "w", .int w u), (PySem.Str.ofString "least", .int e te), (PySem.Str.ofString "mul", .ref 205)]) ?k6 ?k7 ?k9 ?kB ?_ ?c2 ?c3 ?c4 ?c5
  case k6 => k_is
  case k7 => k_is
  case k9 => (intro _; exact BindsTo.of_eq rfl)
  case c5 => decide
  case kB => exact locs rfl
  case c2 => exact rfl
  case c3 => exact rfl
  case c4 => exact rfl
  k_whole
  intro dp un gd fr base s0 L h1 hL hs X T B F N hd hu
  (try dsimp only [Nat.zero_add, Nat.reduceAdd] at hd hu)
  try dsimp only
  replace F : Fr H L h1 (fun y => if y = PySem.Str.ofString "mul" then some (.ref 205) else if y = PySem.Str.ofString "least" then some (.int e te) else if y = PySem.Str.ofString "w" then some (.int w u) else if y = PySem.Str.ofString "base" then some (.int b t) else if y = PySem.Str.ofString "digits" then some (.ref la) else none) := F
  (try k_fold)
  k_steps
  (unfold Hold; refine Does.useV (by assumption) (by assumption) B X T rfl rfl (check_base_does W b _ hb _) (by first | exact Sl.r1 hd (by decide +kernel) | (show dp + 1 + _ < recursionLimit; omega)) (by first | exact Sl.r1 hu (by decide +kernel) | (show un + 3 + _ < cLine; omega)) ?_)
  rintro _ h2 tk2 F2 N2 rfl
  k_steps
  unfold Hold
  refine' for_list (σ := Unit) (fun m c y => m y)
    (fun l c => []) (fun i c => True) (fun l => []) 0 () rfl hla hia ?F ?N ?hm ?hN ?ha ?hp ?turn ?done
  case F => assumption
  case N => assumption
  case hm => (intro y _; rfl)
  case hN => (first | exact List.forall_mem_nil _ | exact List.forall_mem_cons.mpr ⟨by k_mem, List.forall_mem_nil _⟩ | exact List.forall_mem_cons.mpr ⟨by k_mem, List.forall_mem_cons.mpr ⟨by k_mem, List.forall_mem_nil _⟩⟩ | exact List.forall_mem_cons.mpr ⟨by k_mem, List.forall_mem_cons.mpr ⟨by k_mem, List.forall_mem_cons.mpr ⟨by k_mem, List.forall_mem_nil _⟩⟩⟩)
  case ha => (intro c; rfl)
  case hp => trivial
  case turn =>
    intro c i d td h3 tk3 own K hK hi _ hoff F3 N3
    dsimp only at *
    (try k_fold)
    have hd := hds d (List.mem_of_getElem? hi)
    obtain ⟨hd0, hdb⟩ := hd
    k_steps
    refine' hK _ _ (FPost.next () F3 N3 ?ke ?kn ?ko ?kp)
    case ke => (intro y hyx; simp only [if_neg hyx])
    case kn => (first | exact List.forall_mem_nil _ | exact List.forall_mem_cons.mpr ⟨by k_mem, List.forall_mem_nil _⟩ | exact List.forall_mem_cons.mpr ⟨by k_mem, List.forall_mem_cons.mpr ⟨by k_mem, List.forall_mem_nil _⟩⟩ | exact List.forall_mem_cons.mpr ⟨by k_mem, List.forall_mem_cons.mpr ⟨by k_mem, List.forall_mem_cons.mpr ⟨by k_mem, List.forall_mem_nil _⟩⟩⟩)
    case ko => exact fun p hp => hp
    case kp => trivial
  case done =>
    intro c v h3 tk3 _ F3 N3
    dsimp only at *
    (try k_fold)
    have hbl : (lm w b).length < 1000 := lm_len_base (by omega) (by omega) hb9
    k_steps
    · (rename News _ _ _ [_] => N9)
      obtain ⟨lf, hlf⟩ := ex_addr N9
      subst hlf
      (unfold Hold; refine Does.useL (by assumption) (by assumption) B X T rfl rfl (nat_of_does W b w _ _ (by omega) hw hw9 (by omega) _) (by first | exact Sl.r1 hd (by decide +kernel) | (show dp + 1 + _ < recursionLimit; omega)) (by first | exact Sl.r1 hu (by decide +kernel) | (show un + 3 + _ < cLine; omega)) ?_)
      intro l4 its4 n4 h4 tk4 F4 N4 hne4 hi4
      have hlf4 := neN (hne4 _ (.head _))
      dsimp only at hlf4
      k_steps
      (rename Fr _ _ _ _ => F5); (rename News _ _ _ _ => N5)
      unfold Hold
      refine' while_rule (σ := FP) (fun m c y => m y)
        (fun l c => (l, PySem.W.listOf c.vs.toArray c.n) :: c.inner) (fun c => 1 ≤ c.k ∧ c.k ≤ 7 ∧ PowIn w c.inner c.vs (pows b c.k) ∧ (∀ p ∈ c.inner, p.1 ≠ lf)) (fun c => 8 - c.k) lf ⟨1, _, _, [(l4, PySem.W.listOf its4.toArray n4)]⟩ F5 N5 ?hm ?hN ?hp ?turn PassesOwn.never
      case hm => (intro y; rfl)
      case hN => exact List.forall_mem_cons.mpr ⟨by k_mem, List.forall_mem_cons.mpr ⟨by k_mem, List.forall_mem_nil _⟩⟩
      case hp =>
        refine ⟨Nat.le_refl _, by dsimp only; omega, ?_, List.forall_mem_cons.mpr ⟨Ne.symm hlf4, List.forall_mem_nil _⟩⟩
        have e1 : pows b 1 = [b] := by simp [pows, List.range_succ, Int.pow_succ]
        dsimp only
        rw [e1]
        exact .cons (.head _) hi4 .nil
      case turn =>
        rintro ⟨k, vs, n, inner⟩
        intro h6 tk6 K hK
        refine an4 (fun hk1 hk7 hpow hoff => ?_)
        intro F6 N6
        dsimp only at *
        (try k_fold)
        have hvl : vs.length = k := by rw [hpow.length, pows_length]
        have hRL : RL vs := ⟨⟩
        obtain ⟨pk, ik, nk, hgk, hmk, hik⟩ := hpow.get (pows_get (b := b) (show k - 1 < k by omega))
        have hgx : vs[((-1 : Int) + (vs.length : Int)).toNat]? = some (.ref pk) := by rw [hvl, show ((-1 : Int) + (k : Int)).toNat = k - 1 by omega]; exact hgk
        have h2k : (2 : Int) * 2 ^ ((vs.length : Int) - 1).toNat = ((2 ^ k : Nat) : Int) := by
          rw [hvl, show ((k : Int) - 1).toNat = k - 1 by omega, ← two_pow_cast]
          have : 2 ^ k = 2 * 2 ^ (k - 1) := by rw [← Nat.pow_succ']; congr 1; omega
          omega
        have hX2 := pow_ge2 hb (k - 1)
        k_steps
        · (rename 2 * 2 ^ _ < (ds.length : Int) => hlt)
          rw [h2k] at hlt
          have hk6 : k ≤ 6 := by
            by_cases h : k ≤ 6
            · exact h
            · have : 2 ^ 7 ≤ 2 ^ k := Nat.pow_le_pow_right (by omega) (by omega)
              omega
          have hpl : (lm w (b ^ (2 ^ (k - 1)))).length ≤ 7000 := by
            have : 2 ^ (k - 1) ≤ 2 ^ 6 := Nat.pow_le_pow_right (by omega) (by omega)
            exact pow_len (n := 2 ^ (k - 1)) (by omega) (by omega) hb9 (by omega) (Int.le_refl _)
          have hpp := lm_len_mul (w := w) (x := b ^ (2 ^ (k - 1))) (y := b ^ (2 ^ (k - 1))) (by omega) (by omega) (by omega)
          (unfold Hold; refine Does.useL (by assumption) (by assumption) B X T rfl rfl (law_mul_does W _ _ _ _ (b ^ (2 ^ (k - 1))) (b ^ (2 ^ (k - 1))) w _ _ (News.isList N6 (.tail _ hmk)) hik (News.isList N6 (.tail _ hmk)) hik (by omega) (by omega) hw hw9 (by omega) (by omega) (by omega)) (by first | exact Sl.r1 hd (by decide +kernel) | (show dp + 1 + _ < recursionLimit; omega)) (by first | exact Sl.r1 hu (by decide +kernel) | (show un + 3 + _ < cLine; omega)) ?_)
          intro l7 its7 n7 h7 tk7 F7 N7 hne7 hi7
          have hlf7 := neN (hne7 _ (.head _))
          dsimp only at hlf7
          rw [pow_sq, show k - 1 + 1 = k by omega] at hi7
          k_steps
          (rename Fr _ _ _ _ => F8); (rename News _ _ _ _ => N8)
          rw [List.push_toArray] at N8
          refine' hK _ _ (WPost.next ⟨k + 1, vs ++ [.ref l7], n + 1, (l7, PySem.W.listOf its7.toArray n7) :: inner⟩ F8 N8 ?ke ?kn ?kp ?km)
          case ke => (intro y; rfl)
          case kn => exact List.forall_mem_cons.mpr ⟨.tail _ (.head _), List.forall_mem_cons.mpr ⟨.head _, fun p hp => .tail _ (.tail _ hp)⟩⟩
          case kp =>
            dsimp only
            refine ⟨by omega, by omega, ?_, List.forall_mem_cons.mpr ⟨Ne.symm hlf7, hoff⟩⟩
            rw [pows_succ]
            exact (hpow.mono fun p hp => .tail _ hp).snoc (.head _) hi7
          case km => (dsimp only; omega)
        · (unfold Hold; refine Does.useL (by assumption) (by assumption) B X T rfl rfl (number_by_powers_does W b w e _ _ _ k (by omega) hb hb9 hw hw9 100 _ _ _ _ ds _ hna (by omega) (by is_list) hia (News.isList N6 (.head _)) (hpow.at N6 fun p hp => .tail _ hp) hds) (by first | exact Sl.r1 hd (by decide +kernel) | (show dp + 1 + _ < recursionLimit; omega)) (by first | exact Sl.r1 hu (by decide +kernel) | (show un + 3 + _ < cLine; omega)) ?_)
          intro l8 its8 n8 h8 tk8 F8 N8 hne8 hi8
          k_steps
          exact Fin.mk F8 (newInts_of N8 (.head _) hi8)
    · (rename Fr _ _ _ _ => F5); (rename News _ _ _ [_] => N9)
      (unfold Hold; refine Does.useL (by assumption) (by assumption) B X T rfl rfl (number_by_powers_does W b w e _ _ _ 0 (by omega) hb hb9 hw hw9 100 _ _ _ _ ds _ hna (by omega) (by is_list) hia (News.isList N9 (.head _)) .nil hds) (by first | exact Sl.r1 hd (by decide +kernel) | (show dp + 1 + _ < recursionLimit; omega)) (by first | exact Sl.r1 hu (by decide +kernel) | (show un + 3 + _ < cLine; omega)) ?_)
      intro l8 its8 n8 h8 tk8 F8 N8 hne8 hi8
      k_steps
      exact Fin.mk F8 (newInts_of N8 (.head _) hi8)
theorem check_base_raises (W : Wd) (b : Int) (t : Tok) (hb : b < 2) (H : Heap) : Raises W 1 8 107 [.int b t] H := by
  w_top off
  refine fill _ W.w ?_
  k_fill
  intro _
  refine' Raises.enter (binds := [(PySem.Str.ofString "base", .int b t)]) ?k6 ?k7 ?k9 ?kB ?_ ?c2 ?c3 ?c4 ?c5
  case k6 => k_is
  case k7 => k_is
  case k9 => (intro _; exact BindsTo.of_eq rfl)
  case c5 => decide
  case kB => exact locs rfl
  case c2 => exact rfl
  case c3 => exact rfl
  case c4 => exact rfl
  k_whole
  intro dp un gd fr base s0 L h1 hL hs X T B F N hd hu
  (try dsimp only [Nat.zero_add, Nat.reduceAdd] at hd hu)
  try dsimp only
  replace F : Fr H L h1 (fun y => if y = PySem.Str.ofString "base" then some (.int b t) else none) := F
  (try k_fold)
  k_steps
  (rename Heap.MadeExcOf _ _ _ _ _ => hx)
  exact left_made B F hx
theorem from_digits_raises_base (W : Wd) (la : Addr) (b w e : Int) (t u te : Tok) (H : Heap) (hb : b < 2) : Raises W 2 16 177 [.ref la, .int b t, .int w u, .int e te, .ref 205] H := by
  w_top off
  refine fill _ W.w ?_
  k_fill
  intro _
  refine' Raises.enter (binds := [(PySem.Str.ofString "digits", .ref la), (PySem.Str.ofString "base", .int b t), (PySem.Str.ofString "w", .int w u), (PySem.Str.ofString "least", .int e te), (PySem.Str.ofString "mul", .ref 205)]) ?k6 ?k7 ?k9 ?kB ?_ ?c2 ?c3 ?c4 ?c5
  case k6 => k_is
  case k7 => k_is
  case k9 => (intro _; exact BindsTo.of_eq rfl)
  case c5 => decide
  case kB => exact locs rfl
  case c2 => exact rfl
  case c3 => exact rfl
  case c4 => exact rfl
  k_whole
  intro dp un gd fr base s0 L h1 hL hs X T B F N hd hu
  (try dsimp only [Nat.zero_add, Nat.reduceAdd] at hd hu)
  try dsimp only
  replace F : Fr H L h1 (fun y => if y = PySem.Str.ofString "mul" then some (.ref 205) else if y = PySem.Str.ofString "least" then some (.int e te) else if y = PySem.Str.ofString "w" then some (.int w u) else if y = PySem.Str.ofString "base" then some (.int b t) else if y = PySem.Str.ofString "digits" then some (.ref la) else none) := F
  (try k_fold)
  k_steps
  (unfold Hold; refine Raises.use (by assumption) B X T rfl rfl (check_base_raises W b _ hb _) (by first | exact Sl.r1 hd (by decide +kernel) | (show dp + 1 + _ < recursionLimit; omega)) (by first | exact Sl.r1 hu (by decide +kernel) | (show un + 3 + _ < cLine; omega)) ?_)
  intro e2 t2 h2 tk2 fl U
  exact left_on B (by assumption) fl U
theorem from_digits_raises_digit (W : Wd) (la : Addr) (va : List Value) (ds : List Int) (b w e : Int) (t u te : Tok) (H : Heap) (hla : H.IsList la va.toArray) (hia : IntsAre va ds) (hb : 2 ≤ b) (hds : ¬ ∀ d ∈ ds, 0 ≤ d ∧ d < b) :
    Raises W 2 16 177 [.ref la, .int b t, .int w u, .int e te, .ref 205] H := by
  w_top off
  refine fill _ W.w ?_
  k_fill
  intro _
  refine' Raises.enter (binds := [(PySem.Str.ofString "digits", .ref la), (PySem.Str.ofString "base", .int b t), (PySem.Str.ofString "w", .int w u), (PySem.Str.ofString "least", .int e te), (PySem.Str.ofString "mul", .ref 205)]) ?k6 ?k7 ?k9 ?kB ?_ ?c2 ?c3 ?c4 ?c5
  case k6 => k_is
  case k7 => k_is
  case k9 => (intro _; exact BindsTo.of_eq rfl)
  case c5 => decide
  case kB => exact locs rfl
  case c2 => exact rfl
  case c3 => exact rfl
  case c4 => exact rfl
  k_whole
  intro dp un gd fr base s0 L h1 hL hs X T B F N hd hu
  (try dsimp only [Nat.zero_add, Nat.reduceAdd] at hd hu)
  try dsimp only
  replace F : Fr H L h1 (fun y => if y = PySem.Str.ofString "mul" then some (.ref 205) else if y = PySem.Str.ofString "least" then some (.int e te) else if y = PySem.Str.ofString "w" then some (.int w u) else if y = PySem.Str.ofString "base" then some (.int b t) else if y = PySem.Str.ofString "digits" then some (.ref la) else none) := F
  (try k_fold)
  k_steps
  (unfold Hold; refine Does.useV (by assumption) (by assumption) B X T rfl rfl (check_base_does W b _ hb _) (by first | exact Sl.r1 hd (by decide +kernel) | (show dp + 1 + _ < recursionLimit; omega)) (by first | exact Sl.r1 hu (by decide +kernel) | (show un + 3 + _ < cLine; omega)) ?_)
  rintro _ h2 tk2 F2 N2 rfl
  k_steps
  unfold Hold
  refine' for_list (σ := Unit) (fun m c y => m y)
    (fun l c => []) (fun i c => ∀ d ∈ ds.take i, 0 ≤ d ∧ d < b) (fun l => []) 0 () rfl hla hia ?F ?N ?hm ?hN ?ha ?hp ?turn ?done
  case F => assumption
  case N => assumption
  case hm => (intro y _; rfl)
  case hN => (first | exact List.forall_mem_nil _ | exact List.forall_mem_cons.mpr ⟨by k_mem, List.forall_mem_nil _⟩ | exact List.forall_mem_cons.mpr ⟨by k_mem, List.forall_mem_cons.mpr ⟨by k_mem, List.forall_mem_nil _⟩⟩ | exact List.forall_mem_cons.mpr ⟨by k_mem, List.forall_mem_cons.mpr ⟨by k_mem, List.forall_mem_cons.mpr ⟨by k_mem, List.forall_mem_nil _⟩⟩⟩)
  case ha => (intro c; rfl)
  case hp => (intro d hd; simp at hd)
  case turn =>
    intro c i d td h3 tk3 own K hK hi hall hoff F3 N3
    dsimp only at *
    (try k_fold)
    have hall' : 0 ≤ d → d < b → ∀ x ∈ ds.take (i + 1), 0 ≤ x ∧ x < b := by
      intro h0 h1 x hx
      rw [List.take_add_one, hi] at hx
      rcases List.mem_append.mp hx with hx | hx
      · exact hall x hx
      · simp at hx; subst hx; exact ⟨h0, h1⟩
    k_steps
    · refine' hK _ _ (FPost.next () F3 N3 ?ke ?kn ?ko ?kp)
      case ke => (intro y hyx; simp only [if_neg hyx])
      case kn => (first | exact List.forall_mem_nil _ | exact List.forall_mem_cons.mpr ⟨by k_mem, List.forall_mem_nil _⟩ | exact List.forall_mem_cons.mpr ⟨by k_mem, List.forall_mem_cons.mpr ⟨by k_mem, List.forall_mem_nil _⟩⟩ | exact List.forall_mem_cons.mpr ⟨by k_mem, List.forall_mem_cons.mpr ⟨by k_mem, List.forall_mem_cons.mpr ⟨by k_mem, List.forall_mem_nil _⟩⟩⟩)
      case ko => exact fun p hp => hp
      case kp => exact hall' (by assumption) (by assumption)
    · (rename Heap.MadeExcOf _ _ _ _ _ => hx)
      exact left_made B F3 hx
    · (rename Heap.MadeExcOf _ _ _ _ _ => hx)
      exact left_made B F3 hx
  case done =>
    intro c v h3 tk3 hall F3 N3
    rw [List.take_length] at hall
    exact absurd hall hds
theorem law_refused_does_base (W : Wd) (la : Addr) (b w : Int) (t u : Tok) (H : Heap) (hb : b < 2) : Catches W 3 24 240 [.ref la, .int b t, .int w u] H (fun v => v = .bool true) := by
  w_top off
  refine fill _ W.w ?_
  k_fill
  intro _
  refine' Catches.enter (binds := [(PySem.Str.ofString "row", .ref la), (PySem.Str.ofString "base", .int b t), (PySem.Str.ofString "w", .int w u)]) ?k6 ?k7 ?k9 ?kB ?_ ?c2 ?c3 ?c4 ?c5
  case k6 => k_is
  case k7 => k_is
  case k9 => (intro _; exact BindsTo.of_eq rfl)
  case c5 => decide
  case kB => exact locs rfl
  case c2 => exact rfl
  case c3 => exact rfl
  case c4 => exact rfl
  k_whole
  intro dp un gd fr base s0 L h1 hL hs X T Xb Tb B F N hd hu
  (try dsimp only [Nat.zero_add, Nat.reduceAdd] at hd hu)
  try dsimp only
  replace F : Fr H L h1 (fun y => if y = PySem.Str.ofString "w" then some (.int w u) else if y = PySem.Str.ofString "base" then some (.int b t) else if y = PySem.Str.ofString "row" then some (.ref la) else none) := F
  (try k_fold)
  k_steps
  (unfold Hold; refine Raises.use (by assumption) B X T rfl rfl (from_digits_raises_base W la b w 1 _ _ _ _ hb) (by first | exact Sl.r1 hd (by decide +kernel) | (show dp + 1 + _ < recursionLimit; omega)) (by first | exact Sl.r1 hu (by decide +kernel) | (show un + 3 + _ < cLine; omega)) ?_)
  intro e2 t2 h2 tk2 fl U
  refine caught (bmB := [.type "Exception", .type "BaseException", .type "object"]) (newId := "Exception.__new__") B (by assumption) fl U Xb (topRead_of Tb) (by k_is) (by k_exc) rfl (fun h3 F3 U3 X3 => ?_)
  k_steps
  exact FinT.mk F3 U3 rfl
theorem law_refused_does_digit (W : Wd) (la : Addr) (va : List Value) (ds : List Int) (b w : Int) (t u : Tok) (H : Heap) (hla : H.IsList la va.toArray) (hia : IntsAre va ds) (hb : 2 ≤ b) (hds : ¬ ∀ d ∈ ds, 0 ≤ d ∧ d < b) : Catches W 3 24 240 [.ref la, .int b t, .int w u] H (fun v => v = .bool true) := by
  w_top off
  refine fill _ W.w ?_
  k_fill
  intro _
  refine' Catches.enter (binds := [(PySem.Str.ofString "row", .ref la), (PySem.Str.ofString "base", .int b t), (PySem.Str.ofString "w", .int w u)]) ?k6 ?k7 ?k9 ?kB ?_ ?c2 ?c3 ?c4 ?c5
  case k6 => k_is
  case k7 => k_is
  case k9 => (intro _; exact BindsTo.of_eq rfl)
  case c5 => decide
  case kB => exact locs rfl
  case c2 => exact rfl
  case c3 => exact rfl
  case c4 => exact rfl
  k_whole
  intro dp un gd fr base s0 L h1 hL hs X T Xb Tb B F N hd hu
  (try dsimp only [Nat.zero_add, Nat.reduceAdd] at hd hu)
  try dsimp only
  replace F : Fr H L h1 (fun y => if y = PySem.Str.ofString "w" then some (.int w u) else if y = PySem.Str.ofString "base" then some (.int b t) else if y = PySem.Str.ofString "row" then some (.ref la) else none) := F
  (try k_fold)
  k_steps
  (unfold Hold; refine Raises.use (by assumption) B X T rfl rfl (from_digits_raises_digit W la va ds b w 1 _ _ _ _ (by is_list) hia hb hds) (by first | exact Sl.r1 hd (by decide +kernel) | (show dp + 1 + _ < recursionLimit; omega)) (by first | exact Sl.r1 hu (by decide +kernel) | (show un + 3 + _ < cLine; omega)) ?_)
  intro e2 t2 h2 tk2 fl U
  refine caught (bmB := [.type "Exception", .type "BaseException", .type "object"]) (newId := "Exception.__new__") B (by assumption) fl U Xb (topRead_of Tb) (by k_is) (by k_exc) rfl (fun h3 F3 U3 X3 => ?_)
  k_steps
  exact FinT.mk F3 U3 rfl
theorem law_wide_does (W : Wd) (la : Addr) (va : List Value) (ns : List Int) (w : Int) (t u t7 : Tok) (H : Heap) (hla : H.IsList la va.toArray) (hia : IntsAre va ns) (hna : ns.length < 100) (hlay : PyData.layable0 (.list (ns.map .int)) = true) (hw : 2 ≤ w) (hw9 : w ≤ 9)
    : Does W 2 16 212 [.ref la, .int 2 t, .int w u, .int 7 t7] H (fun _ v => ∃ t, v = .int (wide ns w) t) := by
  w_top off
  refine fill _ W.w ?_
  k_fill
  intro _
  refine' Does.enter (binds := [(PySem.Str.ofString "script", .ref la), (PySem.Str.ofString "at", .int 2 t), (PySem.Str.ofString "w", .int w u), (PySem.Str.ofString "many", .int 7 t7)]) ?k6 ?k7 ?k9 ?kB ?_ ?c2 ?c3 ?c4 ?c5
  case k6 => k_is
  case k7 => k_is
  case k9 => (intro _; exact BindsTo.of_eq rfl)
  case c5 => decide
  case kB => exact locs rfl
  case c2 => exact rfl
  case c3 => exact rfl
  case c4 => exact rfl
  k_whole
  intro dp un gd fr base s0 L h1 hL hs X T B F N hd hu
  (try dsimp only [Nat.zero_add, Nat.reduceAdd] at hd hu)
  try dsimp only
  replace F : Fr H L h1 (fun y => if y = PySem.Str.ofString "many" then some (.int 7 t7) else if y = PySem.Str.ofString "w" then some (.int w u) else if y = PySem.Str.ofString "at" then some (.int 2 t) else if y = PySem.Str.ofString "script" then some (.ref la) else none) := F
  (try k_fold)
  have b0 := cell_bits (k := 2) hlay (by decide) (by decide)
  have b1 := cell_bits (k := 2 + 1) hlay (by decide) (by decide)
  have b2 := cell_bits (k := 2 + 2) hlay (by decide) (by decide)
  have b3 := cell_bits (k := 2 + 3) hlay (by decide) (by decide)
  have n3 := cell_nn (ns := ns) (k := 2 + 3) (by decide)
  have p1 := PySem.intBits_pow_le b1 2
  have bc : Builtin.Int.intBits (1000003 ^ Int.toNat 7) ≤ 200 := by decide +kernel
  have m1 : IntMulOk (cell ns 2) (1000003 ^ Int.toNat 7) := IntMulOk.of_le b0 bc (by decide)
  have m2 : IntMulOk (cell ns (2 + 1) ^ Int.toNat 2) 9176263 := IntMulOk.of_le p1 (n := 30) (by decide +kernel) (by decide)
  have f3 : 0 ≤ (cell ns (2 + 3)).fmod (w * 7) ∧ (cell ns (2 + 3)).fmod (w * 7) < w * 7 := by
    rw [Int.fmod_eq_emod_of_nonneg _ (by omega)]
    exact ⟨Int.emod_nonneg _ (by omega), Int.emod_lt_of_pos _ (by omega)⟩
  obtain ⟨f30, f31⟩ := f3
  k_steps
  (unfold Hold; refine Does.useI (by assumption) (by assumption) B X T rfl rfl (law_cell_does W _ _ ns 2 _ _ (by is_list) hia (by omega) (by omega) (by omega)) (by first | exact Sl.r1 hd (by decide +kernel) | (show dp + 1 + _ < recursionLimit; omega)) (by first | exact Sl.r1 hu (by decide +kernel) | (show un + 3 + _ < cLine; omega)) ?_)
  intro t2 h2 tk2 F2 N2
  try dsimp only
  k_steps
  (unfold Hold; refine Does.useI (by assumption) (by assumption) B X T rfl rfl (law_cell_does W _ _ ns (2 + 1) _ _ (by is_list) hia (by omega) (by omega) (by omega)) (by first | exact Sl.r1 hd (by decide +kernel) | (show dp + 1 + _ < recursionLimit; omega)) (by first | exact Sl.r1 hu (by decide +kernel) | (show un + 3 + _ < cLine; omega)) ?_)
  intro t3 h3 tk3 F3 N3
  try dsimp only
  k_steps
  (unfold Hold; refine Does.useI (by assumption) (by assumption) B X T rfl rfl (law_cell_does W _ _ ns (2 + 2) _ _ (by is_list) hia (by omega) (by omega) (by omega)) (by first | exact Sl.r1 hd (by decide +kernel) | (show dp + 1 + _ < recursionLimit; omega)) (by first | exact Sl.r1 hu (by decide +kernel) | (show un + 3 + _ < cLine; omega)) ?_)
  intro t4 h4 tk4 F4 N4
  try dsimp only
  k_steps
  (unfold Hold; refine Does.useI (by assumption) (by assumption) B X T rfl rfl (law_cell_does W _ _ ns (2 + 3) _ _ (by is_list) hia (by omega) (by omega) (by omega)) (by first | exact Sl.r1 hd (by decide +kernel) | (show dp + 1 + _ < recursionLimit; omega)) (by first | exact Sl.r1 hu (by decide +kernel) | (show un + 3 + _ < cLine; omega)) ?_)
  intro t5 h5 tk5 F5 N5
  try dsimp only
  k_steps
  exact Fin.mk F5 ⟨_, rfl⟩
end Mine
theorem PySem.Challenge.cw_nn0010_01_holds : PySem.Challenge.rw_nn0010_01.Holds := by
  refine Mine.hd ?_
  k_go0
  all_goals try k_fold
  rename_i w0 s0 s1 mg mb G Y fa o pm doc ho hg X TX V GL T B0 TE TW w11 w10 M w9 w8 hcd ns hs hlay0 hL1 hr1 hl2 w6 w5 la va w2 hL ra w1 r0 hI hr hc1 hc2 K0 hD h1 tk1 F ow1 ow2 left right N0 X0
  obtain ⟨W, hW1, hW2, hW3, hW4⟩ : ∃ W : Wd, W.w = w0 ∧ W.mean = ExcName.means s0.heap ∧ W.mg = mg ∧ W.mb = mb := ⟨⟨_, _, _, _⟩, rfl, rfl, rfl, rfl⟩
  have B : Below callerA s1.heap [] s1.heap := K0
  replace T : Top Mine.hd.view_39 (looseW Mine.hd.view_39 []) W.mean W.mg W.mb s1.heap := by rw [hW2, hW3, hW4]; exact T
  subst hW1
  replace F : Fr s1.heap s1.heap.objs.size h1 (fun _ => none) := by with_unfolding_all exact F
  replace left : ow1.data = Data.cell none := by with_unfolding_all exact left
  replace right : ow2.data = Data.cell (some (Value.ref la)) := by with_unfolding_all exact right
  clear X0
  have hna : ns.length < 100 := by omega
  have nn : ∀ k, 0 ≤ k → 0 ≤ cell ns k := fun k => cell_nn
  have hlay : PyData.layable0 (.list (ns.map .int)) = true := hL1
  k_steps
  (unfold Hold; refine Does.useEI (W := W) (by assumption) (by assumption) B X T rfl rfl rfl (law_cell_does W _ _ ns 0 _ _ (by is_list) hI (by omega) (by omega) (by omega)) (by show callerA.depth + 1 + _ < recursionLimit; decide) (by show callerA.units + 3 + _ < cLine; decide) ?_)
  intro t2 h2 tk2 F2 N2
  try dsimp only
  have c0 := nn 0 (by decide)
  k_steps
  (unfold Hold; refine Does.useEI (W := W) (by assumption) (by assumption) B X T rfl rfl rfl (law_cell_does W _ _ ns 1 _ _ (by is_list) hI (by omega) (by omega) (by omega)) (by show callerA.depth + 1 + _ < recursionLimit; decide) (by show callerA.units + 3 + _ < cLine; decide) ?_)
  intro t3 h3 tk3 F3 N3
  try dsimp only
  have c1 := nn 1 (by decide)
  k_steps
  have hw : 2 ≤ 2 + (cell ns 0).fmod 8 ∧ 2 + (cell ns 0).fmod 8 ≤ 9 := by have := fm (x := cell ns 0) (k := 8) (by decide); omega
  have hb : 2 ≤ 2 + (cell ns 1).fmod 69 ∧ 2 + (cell ns 1).fmod 69 ≤ 70 := by have := fm (x := cell ns 1) (k := 69) (by decide); omega
  generalize 2 + (cell ns 0).fmod 8 = w at *
  generalize 2 + (cell ns 1).fmod 69 = b at *
  obtain ⟨hw, hw9⟩ := hw
  obtain ⟨hb, hb9⟩ := hb
  (unfold Hold; refine Does.useEI (W := W) (by assumption) (by assumption) B X T rfl rfl rfl (law_wide_does W _ _ ns w _ _ _ _ (by is_list) hI hna hlay hw hw9) (by show callerA.depth + 1 + _ < recursionLimit; decide) (by show callerA.units + 3 + _ < cLine; decide) ?_)
  intro t4 h4 tk4 F4 N4
  try dsimp only
  have hn := wide_ok (ns := ns) hw hw9
  generalize wide ns w = n at *
  obtain ⟨hn, hn63⟩ := hn
  k_steps
  (unfold Hold; refine Does.useEI (W := W) (by assumption) (by assumption) B X T rfl rfl rfl (law_cell_does W _ _ ns 3 _ _ (by is_list) hI (by omega) (by omega) (by omega)) (by show callerA.depth + 1 + _ < recursionLimit; decide) (by show callerA.units + 3 + _ < cLine; decide) ?_)
  intro t5 h5 tk5 F5 N5
  try dsimp only
  have c3 := nn 3 (by decide)
  have f3 := fm (x := cell ns 3) (k := 5) (by decide)
  obtain ⟨f30, f31⟩ := f3
  have hf := far_ok (e := 1 + (cell ns 3).fmod 5) hb hb9 (by omega) (by omega)
  obtain ⟨hf2, hf9⟩ := hf
  have hq := near_ok hn hf2
  obtain ⟨hq0, hq1, hq2, hq3⟩ := hq
  have hm1 : IntMulOk (n.fdiv (b ^ (1 + (cell ns 3).fmod 5).toNat)) (b ^ (1 + (cell ns 3).fmod 5).toNat) := IntMulOk.of_le (small_bits (n := 64) (by omega)) (small_bits (n := 64) (by omega)) (by decide)
  have hpy : Builtin.divisionGoesByPylong n (b ^ (1 + (cell ns 3).fmod 5).toNat) = false := no_pylong_lt (by omega) (by omega)
  k_steps
  (unfold Hold; refine Does.useEI (W := W) (by assumption) (by assumption) B X T rfl rfl rfl (law_cell_does W _ _ ns 2 _ _ (by is_list) hI (by omega) (by omega) (by omega)) (by show callerA.depth + 1 + _ < recursionLimit; decide) (by show callerA.units + 3 + _ < cLine; decide) ?_)
  intro t6 h6 tk6 F6 N6
  try dsimp only
  have c2 := nn 2 (by decide)
  have f2 := fm (x := cell ns 2) (k := 3) (by decide)
  obtain ⟨f20, f21⟩ := f2
  k_steps
  generalize b ^ (1 + (cell ns 3).fmod 5).toNat = far at *
  generalize (cell ns 2).fmod 3 = rr at *
  (rename Fr _ _ _ _ => F7); (rename News _ _ _ _ => N7); (rename (Obj.data _ = Data.cell (some (Value.int _ _))) => dB); (rename Obj => oc)
  obtain ⟨tf, tn, tw, F8⟩ : ∃ tf tn tw, Fr s1.heap s1.heap.objs.size _ (fun y => if y = Str.ofString "far" then some (Value.int far tf) else if y = Str.ofString "n" then some (Value.int n tn) else if y = Str.ofString "w" then some (Value.int w tw) else none) := ⟨_, _, _, F7⟩
  (rename _ < _ ∧ _ < _ ∧ _ < _ => l1)
  clear F7
  unfold Hold
  refine' for_tup (ks := [n, n.fdiv far * far, far + rr, 0]) (σ := Option Value × Option Value × Option Value) (fun m c y => if y = Str.ofString "a" then c.1 else if y = Str.ofString "due" then c.2.1 else if y = Str.ofString "least" then c.2.2 else m y)
    (fun l c => [(s1.heap.objs.size + 1 + 1, oc), (s1.heap.objs.size + 1, ow2)]) (fun i c => True) (fun l => [s1.heap.objs.size + 1 + 1, s1.heap.objs.size + 1]) 0 (_, _, _) rfl ⟨_, (N7 _ (.head _)).1, rfl, _, rfl⟩ (.head _) (.cons _ _ (.cons _ _ (.cons _ _ (.cons _ _ .nil)))) F8 N7 ?hm ?hN ?hNT ?ha ?hp ?turn ?done
  case hm => (intro y hyx; (try dsimp only); by_cases h0 : y = Str.ofString "a"; (case pos => first | exact (if_pos h0).trans (if_pos h0).symm | (subst h0; with_unfolding_all exact rfl) | (simp only [if_neg hyx, if_pos h0]; done) | (simp only [if_neg hyx, if_pos h0]; rfl) | (subst h0; with_unfolding_all exact rfl)); (case neg => by_cases h1 : y = Str.ofString "due"; (case pos => first | exact (if_pos h1).trans (if_pos h1).symm | (subst h1; with_unfolding_all exact rfl) | (simp only [if_neg hyx, if_neg h0, if_pos h1]; done) | (simp only [if_neg hyx, if_neg h0, if_pos h1]; rfl) | (subst h1; with_unfolding_all exact rfl)); (case neg => by_cases h2 : y = Str.ofString "least"; (case pos => first | exact (if_pos h2).trans (if_pos h2).symm | (subst h2; with_unfolding_all exact rfl) | (simp only [if_neg hyx, if_neg h0, if_neg h1, if_pos h2]; done) | (simp only [if_neg hyx, if_neg h0, if_neg h1, if_pos h2]; rfl) | (subst h2; with_unfolding_all exact rfl)); (case neg => (first | rfl | ((repeat refine (if_neg (by assumption)).trans ?_); (repeat refine Eq.trans ?_ (if_neg (by assumption)).symm); done) | ((repeat refine (if_neg (by assumption)).trans ?_); (repeat refine Eq.trans ?_ (if_neg (by assumption)).symm); with_reducible rfl) | (simp only [if_neg hyx, if_neg h0, if_neg h1, if_neg h2]; done) | (simp only [if_neg hyx, if_neg h0, if_neg h1, if_neg h2]; rfl))))))
  case hN => (first | exact List.forall_mem_nil _ | exact List.forall_mem_cons.mpr ⟨by k_mem, List.forall_mem_nil _⟩ | exact List.forall_mem_cons.mpr ⟨by k_mem, List.forall_mem_cons.mpr ⟨by k_mem, List.forall_mem_nil _⟩⟩ | exact List.forall_mem_cons.mpr ⟨by k_mem, List.forall_mem_cons.mpr ⟨by k_mem, List.forall_mem_cons.mpr ⟨by k_mem, List.forall_mem_nil _⟩⟩⟩)
  case hNT => exact List.forall_mem_cons.mpr ⟨Nat.ne_of_lt l1.2.1, List.forall_mem_cons.mpr ⟨Nat.ne_of_lt l1.2.2, List.forall_mem_nil _⟩⟩
  case ha => (intro c; rfl)
  case hp => trivial
  case turn =>
    refine pr3 (fun va vd vl => ?_)
    intro i x tx h9 tk9 own K hK hi _ hoff F9 N9
    dsimp only at *
    (try k_fold)
    have hx : 0 ≤ x ∧ x < 2 ^ 64 := by
      have hx := List.mem_of_getElem? hi
      simp only [List.mem_cons, List.not_mem_nil, or_false] at hx
      rcases hx with h | h | h | h <;> omega
    clear hi
    obtain ⟨hx, hx64⟩ := hx
    have hl := len64 (w := w) hw hx hx64
    have hdl := dlen64 hb hx hx64
    k_steps
    (unfold Hold; refine Does.useEL (W := W) (by assumption) (by assumption) B X T rfl rfl rfl (law_limbs_does W x w _ _ hx hw hw9 (by omega) _) (by show callerA.depth + 1 + _ < recursionLimit; decide) (by show callerA.units + 3 + _ < cLine; decide) ?_)
    intro lA iA nA h10 tk10 F10 N10 ne10 hi10
    try dsimp only
    k_steps
    (unfold Hold; refine Does.useEL (W := W) (by assumption) (by assumption) B X T rfl rfl rfl (law_digits_does W x b _ _ hx hb hb9 (by omega) _) (by show callerA.depth + 1 + _ < recursionLimit; decide) (by show callerA.units + 3 + _ < cLine; decide) ?_)
    intro lD iD nD h11 tk11 F11 N11 ne11 hi11
    try dsimp only
    k_steps
    (unfold Hold; refine Does.useEI (W := W) (by assumption) (by assumption) B X T rfl rfl rfl (law_cell_does W _ _ ns 4 _ _ (by is_list) hI (by omega) (by omega) (by omega)) (by show callerA.depth + 1 + _ < recursionLimit; decide) (by show callerA.units + 3 + _ < cLine; decide) ?_)
    intro t12 h12 tk12 F12 N12
    try dsimp only
    k_steps
    (unfold Hold; refine Does.useEI (W := W) (by assumption) (by assumption) B X T rfl rfl rfl (law_cell_does W _ _ ns 5 _ _ (by is_list) hI (by omega) (by omega) (by omega)) (by show callerA.depth + 1 + _ < recursionLimit; decide) (by show callerA.units + 3 + _ < cLine; decide) ?_)
    intro t13 h13 tk13 F13 N13
    try dsimp only
    k_steps
    (rename Fr _ _ _ _ => F14); (rename News _ _ _ _ => N14); (rename _ < _ ∧ _ < _ ∧ _ < _ ∧ AllLt _ _ => l2)
    unfold Hold
    refine' for_tup (ks := [(cell ns 4).fmod 3, 3 + (cell ns 5).fmod 4]) (σ := Unit) (fun m c y => m y)
      (fun l c => (lD, PySem.W.listOf iD.toArray nD) :: (lA, PySem.W.listOf iA.toArray nA) :: ([(s1.heap.objs.size + 1 + 1, oc), (s1.heap.objs.size + 1, ow2)] ++ own)) (fun i c => True) (fun l => ((lD, PySem.W.listOf iD.toArray nD) :: (lA, PySem.W.listOf iA.toArray nA) :: ([(s1.heap.objs.size + 1 + 1, oc), (s1.heap.objs.size + 1, ow2)] ++ own)).map (·.1)) 0 () rfl ⟨_, (N14 _ (.head _)).1, rfl, _, rfl⟩ (.head _) (.cons _ _ (.cons _ _ .nil)) F14 N14 ?hm2 ?hN2 ?hNT2 ?ha2 ?hp2 ?turn2 ?done2
    case hm2 => (intro y _; rfl)
    case hN2 => exact fun p hp => .tail _ (.tail _ hp)
    case hNT2 => exact fun p hp => Nat.ne_of_lt (allLt_mem (show AllLt _ (_ :: _ :: _) from ⟨l2.2.1, l2.2.2.1, l2.2.2.2⟩) p hp)
    case ha2 => (intro c; rfl)
    case hp2 => trivial
    case turn2 =>
      intro c j e te h15 tk15 own2 K hK _ _ hoff2 F15 N15
      dsimp only at *
      (try k_fold)
      k_steps
      (unfold Hold; refine Does.useEL (W := W) (by assumption) (by assumption) B X T rfl rfl rfl (to_digits_does W _ _ x b w e _ _ _ _ (by is_list) hi10 hx hb hb9 hw hw9 (by omega) (by omega)) (by show callerA.depth + 1 + _ < recursionLimit; decide) (by show callerA.units + 3 + _ < cLine; decide) ?_)
      intro lR iR nR h16 tk16 F16 N16 ne16 hi16
      try dsimp only
      k_steps
      (unfold Hold; refine Does.useEL (W := W) (by assumption) (by assumption) B X T rfl rfl rfl (law_limbs_does W x w _ _ hx hw hw9 (by omega) _) (by show callerA.depth + 1 + _ < recursionLimit; decide) (by show callerA.units + 3 + _ < cLine; decide) ?_)
      intro lB iB nB h17 tk17 F17 N17 ne17 hi17
      try dsimp only
      k_steps
      (unfold Hold; refine Does.useEL (W := W) (by assumption) (by assumption) B X T rfl rfl rfl (from_digits_does W _ _ ([0, 0] ++ (dig b.toNat x.toNat).reverse) b w e _ _ _ _ (by is_list) (by assumption) (dig_digits hb) hb hb9 hw hw9 (by simp only [List.length_append, List.length_reverse, List.length_cons, List.length_nil]; omega)) (by show callerA.depth + 1 + _ < recursionLimit; decide) (by show callerA.units + 3 + _ < cLine; decide) ?_)
      intro lC iC nC h18 tk18 F18 N18 ne18 hi18
      rw [worth_dig0 hb hx] at hi18
      try dsimp only
      k_steps
      (unfold Hold; refine Does.useEI (W := W) (by assumption) (by assumption) B X T rfl rfl rfl (law_number_does W _ _ x w _ _ (by is_list) hi18 hx hw hw9 (by omega)) (by show callerA.depth + 1 + _ < recursionLimit; decide) (by show callerA.units + 3 + _ < cLine; decide) ?_)
      intro t19 h19 tk19 F19 N19
      try dsimp only
      k_steps
      · exact absurd (rfl : x = x) (by assumption)
      · refine' hK _ _ (FPost.next () F19 N19 ?ke ?kn ?ko ?kp)
        case ke => (intro y hyx; simp only [if_neg hyx])
        case kn => exact fun p hp => .tail _ (.tail _ (.tail _ (.tail _ (.tail _ (List.mem_append_left _ hp)))))
        case ko => exact fun p hp => .tail _ (.tail _ (.tail _ (.tail _ (.tail _ (List.mem_append_right _ hp)))))
        case kp => trivial
    case done2 =>
      intro c u h15 tk15 _ F15 N15
      dsimp only at *
      (try k_fold)
      k_steps
      refine' hK _ _ (FPost.next (some (.ref lA), some (.ref lD), u) F15 N15 ?ke ?kn ?ko ?kp)
      case ke => (intro y hyx; (try dsimp only); by_cases h0 : y = Str.ofString "a"; (case pos => first | exact (if_pos h0).trans (if_pos h0).symm | (subst h0; with_unfolding_all exact rfl) | (simp only [if_neg hyx, if_pos h0]; done) | (simp only [if_neg hyx, if_pos h0]; rfl) | (subst h0; with_unfolding_all exact rfl)); (case neg => by_cases h1 : y = Str.ofString "due"; (case pos => first | exact (if_pos h1).trans (if_pos h1).symm | (subst h1; with_unfolding_all exact rfl) | (simp only [if_neg hyx, if_neg h0, if_pos h1]; done) | (simp only [if_neg hyx, if_neg h0, if_pos h1]; rfl) | (subst h1; with_unfolding_all exact rfl)); (case neg => by_cases h2 : y = Str.ofString "least"; (case pos => first | exact (if_pos h2).trans (if_pos h2).symm | (subst h2; with_unfolding_all exact rfl) | (simp only [if_neg hyx, if_neg h0, if_neg h1, if_pos h2]; done) | (simp only [if_neg hyx, if_neg h0, if_neg h1, if_pos h2]; rfl) | (subst h2; with_unfolding_all exact rfl)); (case neg => (first | rfl | ((repeat refine (if_neg (by assumption)).trans ?_); (repeat refine Eq.trans ?_ (if_neg (by assumption)).symm); done) | ((repeat refine (if_neg (by assumption)).trans ?_); (repeat refine Eq.trans ?_ (if_neg (by assumption)).symm); with_reducible rfl) | (simp only [if_neg hyx, if_neg h0, if_neg h1, if_neg h2]; done) | (simp only [if_neg hyx, if_neg h0, if_neg h1, if_neg h2]; rfl))))))
      case kn => exact fun p hp => .tail _ (.tail _ (List.mem_append_left _ hp))
      case ko => exact fun p hp => .tail _ (.tail _ (List.mem_append_right _ hp))
      case kp => trivial
  case done =>
    refine pr3 (fun va vd vl => ?_)
    intro u h9 tk9 _ F9 N9
    dsimp only at *
    (try k_fold)
    clear l1 N7 F8
    k_steps
    (unfold Hold; refine Does.useEI (W := W) (by assumption) (by assumption) B X T rfl rfl rfl (law_cell_does W _ _ ns 6 _ _ (by is_list) hI (by omega) (by omega) (by omega)) (by show callerA.depth + 1 + _ < recursionLimit; decide) (by show callerA.units + 3 + _ < cLine; decide) ?_)
    intro t10 h10 tk10 F10 N10
    try dsimp only
    have f6 := fm (x := cell ns 6) (k := 11) (by decide)
    obtain ⟨f60, f61⟩ := f6
    k_steps
    unfold Hold
    refine LCg.CompSrc.range (by rfl) (by k_asm) (by k_asm) (by assumption) (small_up (by omega) (by omega) (by omega) (by omega)) (rangeSize_nat _ _) (by rw [PySem.sizeLine_eq]; omega) ?_
    intro g
    refine' kcf_range (fun k => (cell ns k).fmod b) (fun k t I oI C oC D m9 ys h11 tk11 E' hlo hhi hC hx F11 N11 off ne mark => ?_) ?_
    · k_steps
      (unfold Hold; refine Does.useEI (W := W) (by assumption) (by assumption) B X T rfl rfl rfl (law_cell_does W _ _ ns k _ _ (by is_list) hI (by omega) (by omega) (by omega)) (by show callerA.depth + 1 + _ < recursionLimit; decide) (by show callerA.units + 3 + _ < cLine; decide) ?_)
      intro t12 h12 tk12 F12 N12
      try dsimp only
      k_steps
    · k_steps
      rename_i lR hz1 tz1 oz1 qz1 ez1 lK cK hz2 Fz2 Nz2 lz2 hz3 lT hz4 F20 N20 l20
      obtain ⟨R, hR, hRl, hI8⟩ : ∃ R, (∀ d ∈ R, 0 ≤ d ∧ d < b) ∧ R.length ≤ 11 ∧ IntsAre ys R := ⟨rowOf ns b (1 + (cell ns 6).fmod 11 - 0).toNat, rowOf_ok hb, by rw [rowOf_length]; omega, by assumption⟩
      have hW0 := worth_nn (b := b) (by omega) hR
      have hWl : (lm w (worth b R)).length ≤ 7000 := pow_len (by omega) (by omega) hb9 (by omega) (Int.le_of_lt (worth_lt_all hb hR))
      have hys := hI8.length
      unfold Hold
      refine' for_tup (ks := [0, 2, 30]) (σ := Unit) (fun m c y => m y)
        (fun l c => [(lK, PySem.W.listOf ys.toArray cK), (lR, PySem.W.listOf ys.toArray ys.length), (s1.heap.objs.size + 1 + 1, oc), (s1.heap.objs.size + 1, ow2)]) (fun i c => True) (fun l => [lK, lR, s1.heap.objs.size + 1 + 1, s1.heap.objs.size + 1]) 0 () rfl ⟨_, (N20 _ (.head _)).1, rfl, _, rfl⟩ (.head _) (.cons _ _ (.cons _ _ (.cons _ _ .nil))) F20 N20 ?hm ?hN ?hNT ?ha ?hp ?turn ?done
      case hm => (intro y _; rfl)
      case hN => exact fun p hp => .tail _ hp
      case hNT => exact fun p hp => Nat.ne_of_lt (allLt_mem (show AllLt _ [_, _, _, _] from ⟨l20.1, l20.2.1, l20.2.2.1, l20.2.2.2, trivial⟩) p hp)
      case ha => (intro c; rfl)
      case hp => trivial
      case turn =>
        intro c j e te h21 tk21 own K hK _ _ hoff F21 N21
        dsimp only at *
        (try k_fold)
        k_steps
        (unfold Hold; refine Does.useEL (W := W) (by assumption) (by assumption) B X T rfl rfl rfl (from_digits_does W _ _ R b w e _ _ _ _ (by is_list) hI8 hR hb hb9 hw hw9 (by omega)) (by show callerA.depth + 1 + _ < recursionLimit; decide) (by show callerA.units + 3 + _ < cLine; decide) ?_)
        intro lC iC nC h22 tk22 F22 N22 ne22 hi22
        try dsimp only
        k_steps
        (unfold Hold; refine Does.useEI (W := W) (by assumption) (by assumption) B X T rfl rfl rfl (law_number_does W _ _ (worth b R) w _ _ (by is_list) hi22 hW0 hw hw9 (by omega)) (by show callerA.depth + 1 + _ < recursionLimit; decide) (by show callerA.units + 3 + _ < cLine; decide) ?_)
        intro t23 h23 tk23 F23 N23
        try dsimp only
        k_steps
        (unfold Hold; refine Does.useEI (W := W) (by assumption) (by assumption) B X T rfl rfl rfl (law_worth_does W _ _ R b _ _ (by is_list) hI8 hb hb9 hR (by omega)) (by show callerA.depth + 1 + _ < recursionLimit; decide) (by show callerA.units + 3 + _ < cLine; decide) ?_)
        intro t24 h24 tk24 F24 N24
        try dsimp only
        k_steps
        · exact absurd (rfl : worth b R = worth b R) (by assumption)
        · refine' hK _ _ (FPost.next () F24 N24 ?ke ?kn ?ko ?kp)
          case ke => (intro y hyx; simp only [if_neg hyx])
          case kn => exact fun p hp => .tail _ (List.mem_append_left _ hp)
          case ko => exact fun p hp => .tail _ (List.mem_append_right _ hp)
          case kp => trivial
      case done =>
        intro c u2 h21 tk21 _ F21 N21
        dsimp only at *
        (try k_fold)
        k_steps
        (unfold Hold; refine Catches.useE (W := W) (by assumption) (by assumption) B X T rfl rfl rfl (law_refused_does_digit W _ _ (R ++ [b]) b w _ _ _ (by is_list) (by assumption) hb bad_over) (by show callerA.depth + 1 + _ < recursionLimit; decide) (by show callerA.units + 3 + _ < cLine; decide) ?_)
        rintro _ h25 tk25 F25 N25 rfl
        try dsimp only
        k_steps
        (unfold Hold; refine Catches.useE (W := W) (by assumption) (by assumption) B X T rfl rfl rfl (law_refused_does_digit W _ _ ([0 - 1] ++ R) b w _ _ _ (by is_list) (by assumption) hb bad_below) (by show callerA.depth + 1 + _ < recursionLimit; decide) (by show callerA.units + 3 + _ < cLine; decide) ?_)
        rintro _ h26 tk26 F26 N26 rfl
        try dsimp only
        k_steps
        (unfold Hold; refine Catches.useE (W := W) (by assumption) (by assumption) B X T rfl rfl rfl (law_refused_does_base W _ 1 w _ _ _ (by decide)) (by show callerA.depth + 1 + _ < recursionLimit; decide) (by show callerA.units + 3 + _ < cLine; decide) ?_)
        rintro _ h27 tk27 F27 N27 rfl
        try dsimp only
        k_steps
        (unfold Hold; refine Does.useEL (W := W) (by assumption) (by assumption) B X T rfl rfl rfl (from_digits_does W _ [] [] b w 1 _ _ _ _ (by is_list) .nil (fun _ h => nomatch h) hb hb9 hw hw9 (by decide)) (by show callerA.depth + 1 + _ < recursionLimit; decide) (by show callerA.units + 3 + _ < cLine; decide) ?_)
        intro lE iE nE h28 tk28 F28 N28 ne28 hi28
        rw [worth_nil, lm_zero] at hi28
        try dsimp only
        k_steps
