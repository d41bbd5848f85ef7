import PyProof.Rows.All
import Wide.All
import PyProof.ExcBaseAll.Exception
import KE.KPar
import KE.KItem
import OpenK.AllK
import Wide.FinOn
import Lean
import PySem.Challenge.RW_pq0578_01
set_option Elab.async false
set_option maxRecDepth 100000
set_option linter.all false
set_option compiler.extract_closed false
set_option maxHeartbeats 0
namespace Mine
theorem oa0 {a : Int} (h0 : 0 ≤ a) : (((Int.toNat a) : Nat) : Int) = a := by exact Int.toNat_of_nonneg h0
theorem ob0 {a : Int} (h0 : a ≤ 127) : (Int.toNat a) < 128 := by (simp; lia)
theorem oc0 {a b c : Nat} (h0 : ((a + 1) - ((b + 1) + 1)) ≤ c) : (a - (b + 1)) ≤ c := by (simp at *; omega)
theorem od0 {a b : Int} (h0 : 0 ≤ a) (h1 : 0 ≤ (b - a)) : (((Int.toNat b) : Nat) : Int) = b := by lia
theorem oe0 {a b : Nat} (h0 : ¬(a = b)) (h1 : a < (b + 1)) : a < b := by lia
theorem of0 {a : Nat} : (Int.toNat ((-1) + (a : Int))) = (a - 1) := by lia
theorem og0 {a : Nat} {b : Int} : ((a - (Int.toNat b)) + (min (Int.toNat b) a)) = a := by lia
theorem oh0 {a b c : Nat} (h0 : a = b) (h1 : c < a) : c < b := by exact Nat.lt_of_lt_of_eq h1 h0
theorem oi0 {a : Nat} : (a % 8) < 8 := by lia
theorem oj0 {a b c : Nat} (h0 : ((a + (8 * b)) + 100) < c) : ((a + 1) + 1) < c := by lia
theorem ok0 {a b c : Nat} (h0 : (a + (b + 1)) ≤ c) : (a - 1) < c := by omega
theorem ol0 {a : Nat} (h0 : a < 128) : (a / 16) < 16 := by lia
theorem om0 {a b : Nat} : ((a + b) - b) = a := by exact Eq.symm (Nat.eq_sub_of_add_eq rfl)
theorem on0 {a : Nat} : (a % 16) < 16 := by lia
theorem oo0 {a b : Nat} (h0 : 1 ≤ a) (h1 : b ≤ (1 + (a - 1))) : b ≤ a := by simp_all
theorem op0 {a b : Nat} : (a - (b + 1)) ≤ (a - 1) := by (simp; lia)
theorem oq0 {a b : Nat} (h0 : (a + 1) ≤ b) : ((((b - (a + 1)) : Nat) : Int) + 1) = (((b - a) : Nat) : Int) := by lia
theorem or0 {a b : Nat} : (Int.toNat (((a - b) : Nat) : Int)) = ((a - b) + 0) := by simp_all
theorem os0 {d : Nat} {a b c : Int} (h0 : a ≤ (b + 1)) (h1 : b ≤ (c + (d : Int))) : a ≤ (c + ((d : Int) + 1)) := by lia
theorem ot0 {a b : Nat} (h0 : (a + 1) ≤ b) : a ≤ b := by exact Nat.le_of_succ_le h0
theorem ou0 {a b : Nat} (h0 : 1 ≤ a) : (((0 + b) - 1) - (a - 1)) = (b - a) := by lia
theorem ov0 {a b : Nat} (h0 : a ≤ b) : a ≤ (b + 1) := by exact Nat.le_add_right_of_le h0
theorem ow0 {a b : Nat} (h0 : (a + 1) = (b + 1)) : a = b := by exact Nat.add_right_cancel h0
theorem ox0 {a b c : Nat} (h0 : a = b) (h1 : c < b) : c < a := by (subst h0; omega)
theorem oy0 {a b c : Nat} (h0 : a ≤ ((b + 1) + c)) : a ≤ (b + (c + 1)) := by lia
theorem oz0 {a : Int} (h0 : a < 5) (h1 : 0 ≤ a) : ((a = 0) ∨ (((a = 1) ∨ (((a = 2) ∨ (((a = 3) ∨ (a = 4)))))))) := by lia
theorem oa1 {a b : Nat} (h0 : a < b) : (b - (a + 1)) < (b - a) := by exact Nat.sub_succ_lt_self b a h0
theorem ob1 {a b c : Nat} (h0 : (a + (b + 1)) ≤ c) : ((a + 1) + b) ≤ c := by lia
theorem oc1 {a : Nat} : ((a / 8) % 8) < 8 := by lia
theorem od1 {a b c : Nat} (h0 : a ≤ ((b + 1) + (c - (b + 1)))) (h1 : (b + 1) ≤ c) : a ≤ c := by simp_all
theorem oe1 {a b : Nat} (h0 : a < b) : (a + ((b - 1) - a)) = (b - 1) := by lia
theorem of1 {a b c d : Nat} (h0 : (a + 1) < b) (h1 : ((c + (8 * b)) + 100) < d) : (((c + 1) + (8 * a)) + 103) < d := by lia
theorem og1 {a b : Nat} : (((0 + a) - 1) - b) = ((a - b) - 1) := by lia
theorem oh1 {a : Int} (h0 : 0 ≤ a) : a = (((Int.toNat a) : Nat) : Int) := by exact Int.eq_natCast_toNat.mpr h0
theorem oi1 {a : Nat} : (Int.toNat ((a : Int) - 7)) = (a - 7) := by lia
theorem oj1 {a b c : Int} (h0 : a ≤ b) (h1 : b ≤ c) : a ≤ c := by exact Int.le_trans h0 h1
theorem ok1 {a b : Nat} : (Int.toNat ((((a + b) - b) : Nat) : Int)) = a := by omega
theorem ol1 {a b c d : Nat} (h0 : ¬(a < ((min b c) - (min d c)))) (h1 : (d + a) < b) : c ≤ (d + a) := by (simp_all; omega)
theorem om1 {a : Nat} : (Int.toNat ((a : Int) % 16)) = (a % 16) := by lia
theorem on1 {a b c : Nat} (h0 : (a - b) ≤ (c + 1)) : (((b + a) / 2) - b) ≤ c := by (simp_all; omega)
theorem oo1 {a b c : Nat} (h0 : ((a ≤ b) ∧ (b < c))) : (((a + c) - 1) - b) < c := by omega
theorem op1 {a b : Nat} (h0 : (a + 1) ≤ b) : (b - 1) < b := by exact Nat.sub_one_lt_of_lt h0
theorem oq1 {a b c d : Nat} (h0 : a < ((min b c) - (min d c))) : ((min d c) + a) = (d + a) := by (simp; lia)
theorem or1 {a b c : Nat} (h0 : ((a ≤ b) ∧ (b < c))) : a ≤ (((a + c) - 1) - b) := by omega
theorem os1 {a b c : Nat} (h0 : (a - b) ≤ (c + 1)) : (a - (((b + a) / 2) + 1)) ≤ c := by (simp at *; omega)
theorem ot1 {a b c : Nat} (h0 : a ≤ b) (h1 : b ≤ c) : ((((c - b) : Nat) : Int) + (a : Int)) = (((c - (b - a)) : Nat) : Int) := by lia
theorem ou1 {b : Nat} {a c : Int} (h0 : ((min (Int.toNat a) b) - (min (Int.toNat c) b)) = b) : b ≤ (Int.toNat a) := by omega
theorem ov1 {a b : Int} (h0 : 0 ≤ (a - b)) : (Int.toNat b) ≤ (Int.toNat a) := by (simp; lia)
theorem ow1 {a b c d : Int} (h0 : a ≤ b) (h1 : (b - c) < ((d - c) + 1)) : a ≤ d := by lia
theorem ox1 {a b : Int} : (a + (b - a)) = b := by exact Eq.symm ((fun {b a c} => Int.sub_eq_iff_eq_add'.mp) rfl)
theorem oy1 {a b c : Nat} : (Int.toNat (((((a + b) - b) : Nat) : Int) + (c : Int))) = (a + c) := by (simp; lia)
theorem oz1 {a b : Int} : a = ((a + b) - b) := by exact Eq.symm (Int.add_sub_cancel a b)
theorem oa2 {a b c : Int} (h0 : (a - b) < ((c - b) + 1)) : (Int.toNat a) ≤ (Int.toNat c) := by (simp; lia)
theorem ob2 {a b : Nat} (h0 : a = b) (h1 : b < 64) : a < 64 := by exact lt_of_eq_of_lt h0 h1
theorem oc2 {a b c d : Nat} (h0 : a < ((min b c) - (min d c))) : (d + a) < b := by omega
theorem od2 {a b : Int} (h0 : ¬(a ≤ b)) : b ≤ a := by exact Int.le_of_not_le h0
theorem oe2 {a b c : Nat} (h0 : (a + (b + 1)) = c) : a < c := by (subst h0; simp)
theorem of2 {b : Nat} {a : Int} (h0 : a = ((b : Int) - 1)) : (Int.toNat a) = (b - 1) := by simp_all
theorem og2 {a b c : Nat} (h0 : (a + (b + 1)) ≤ c) : a < c := by exact Nat.lt_of_add_right_lt h0
theorem oh2 {a : Nat} (h0 : a = 128) : a < 9223372036854775808 := by (subst h0; simp)
theorem oi2 {a b c : Nat} (h0 : ((a + (8 * b)) + 100) < c) : (a + 64) < c := by lia
theorem oj2 {a b c : Nat} (h0 : a ≤ b) (h1 : c ≤ a) : (((b - c) : Nat) : Int) = ((((b - a) : Nat) : Int) + (((a - c) : Nat) : Int)) := by lia
theorem ok2 {a b : Nat} : ((a + b) - a) = b := by exact Nat.add_sub_self_left a b
theorem ol2 {a b : Nat} (h0 : a ≤ b) : (a - 1) ≤ (b - 1) := by exact Nat.sub_le_sub_right h0 1
theorem om2 {a : Nat} : 0 ≤ a := by exact Nat.zero_le a
theorem on2 {a : Nat} : a < (a + 1) := by exact Nat.lt_add_one a
theorem oo2 {a b c : Int} (h0 : 0 ≤ (a - b)) (h1 : a ≤ c) : b ≤ c := by lia
theorem op2 {a b : Nat} (h0 : a ≤ b) : (b - (b - a)) = a := by exact Nat.sub_sub_self h0
theorem oq2 {a b c d : Nat} (h0 : (a + 1) < b) (h1 : (c + b) < d) : (((c + 1) + a) + 1) < d := by lia
theorem or2 {a : Nat} : (Int.toNat ((a : Int) / 16)) = (a / 16) := by exact Nat.add_zero (a.div 16)
theorem os2 {a b c d e f : Nat} (h0 : a = (2 * b)) (h1 : c = (d + a)) (h2 : d ≤ 12) (h3 : (2 * b) ≤ (e + 2)) (h4 : e ≤ (f + 14)) (h5 : f ≤ 8) : c ≤ 1048576 := by lia
theorem ot2 {a b c : Nat} (h0 : ((a + 1) - (0 + 1)) ≤ b) (h1 : b < (a + 1)) (h2 : ((a + 1) - (0 + 1)) ≤ c) (h3 : c < (a + 1)) : c = b := by lia
theorem ou2 {a b : Nat} (h0 : (a + 1) ≤ b) : 1 ≤ b := by exact Nat.one_le_of_lt h0
theorem ov2 {a : Nat} : (Int.toNat (a : Int)) = a := by exact Int.toNat_natCast a
theorem ow2 {a : Nat} (h0 : 32 ≤ a) : ¬(a = 10) := by lia
theorem ox2 {a : Int} (h0 : 0 < a) : 1 ≤ a := by exact Int.le_of_sub_one_lt h0
theorem oy2 {a b : Nat} (h0 : (((a - b) : Nat) : Int) < (a : Int)) : b = ((b - 1) + 1) := by lia
theorem oz2 {a : Nat} : (0 + 1) ≤ (a + 1) := by exact Nat.le_add_left (0 + 1) a
theorem oa3 {a : Nat} : ((((((0 * 8) + (((a / 64) : Nat) : Int)) * 8) + ((((a / 8) % 8) : Nat) : Int)) * 8) + (((a % 8) : Nat) : Int)) = (a : Int) := by (simp; lia)
theorem ob3 {b : Nat} {a c : Int} (h0 : ((min (Int.toNat a) b) - (min (Int.toNat c) b)) = b) (h1 : (Int.toNat c) > 0) : b = 0 := by omega
theorem oc3 {a b c : Nat} (h0 : a = (b + c)) : (a + (0 + 1)) = (b + (c + (0 + 1))) := by exact Nat.add_left_inj.mpr h0
theorem od3 {a : Nat} (h0 : a < 128) : a < 256 := by exact Nat.le_trans h0 (by decide)
theorem oe3 {a b : Nat} (h0 : a ≤ b) : a < (b + 1) := by exact Nat.lt_succ_of_le h0
theorem of3 {a : Nat} (h0 : ((a ≠ 42) ∧ (((a ≠ 43) ∧ (((a ≠ 63) ∧ (a ≠ 123))))))) (h1 : ((a = 42) ∨ (((a = 43) ∨ (((a = 63) ∨ (a = 123))))))) : False := by omega
theorem og3 {a : Nat} (h0 : a < 2) : a ≤ 16777216 := by lia
theorem oh3 {a : Nat} : (a - 0) ≤ a := by exact Nat.sub_le a 0
theorem oi3 {a b c d e f g h : Nat} (h0 : a ≤ 10000) (h1 : b = (2 * c)) (h2 : d = (e + b)) (h3 : f = d) (h4 : e ≤ 12) (h5 : (2 * c) ≤ (g + 2)) (h6 : g ≤ (h + 14)) (h7 : h ≤ 8) : (a + f) ≤ 1048576 := by lia
theorem oj3 {a : Nat} (h0 : ((a = 91) ∨ (((a = 92) ∨ (128 ≤ a))))) : ((a ≠ 42) ∧ (((a ≠ 43) ∧ (((a ≠ 63) ∧ (a ≠ 123)))))) := by lia
theorem ok3 {a b c : Nat} (h0 : ((a < b) ∧ (b ≤ c))) : (b - 1) < c := by omega
theorem ol3 {a : Nat} (h0 : a = 128) : a ≤ 1048576 := by (subst h0; simp)
theorem om3 {a b c : Nat} (h0 : ((a + b) + c) ≤ 10000) : b ≤ 10000 := by lia
theorem on3 {a b : Nat} (h0 : a < b) : b = ((b - 1) + 1) := by lia
theorem oo3 {a b c d : Nat} (h0 : ((a < b) ∧ (b ≤ c))) (h1 : ¬(((a < d) ∧ (d ≤ c)))) (h2 : d ≤ b) : d ≤ (b - 1) := by lia
theorem op3 {a b : Nat} (h0 : ((a + 1) + 1) = (b + 1)) : b = (a + 1) := by exact Eq.symm (Nat.add_right_cancel h0)
theorem oq3 {a b c : Nat} (h0 : ¬(a = b)) (h1 : c = b) (h2 : a ≤ c) : a < b := by lia
theorem or3 {a : Nat} (h0 : a ≤ 5) : (a + 1) ≤ 10000 := by exact Nat.lt_of_le_of_lt h0 (by decide)
theorem os3 {a : Nat} : (Int.toNat ((a : Int) + 1)) = (a + 1) := by exact Int.toNat_natCast_add_one
theorem ot3 {a : Nat} (h0 : a ≤ 1) : (max ((max 0 (max 0 0)) + 1) a) ≤ 1 := by simp_all
theorem ou3 {a b : Nat} (h0 : a = b) : (min a b) = a := by (subst h0; simp)
theorem ov3 {a : Nat} : (min 48 a) ≤ 48 := by exact Nat.min_le_left 48 a
theorem ow3 {a b : Nat} {c : Int} (h0 : a = b) (h1 : (-(b : Int)) ≤ c) : (-(a : Int)) ≤ c := by (subst h0; exact h1)
theorem ox3 {b : Nat} {a : Int} (h0 : ((min (Int.toNat a) b) - 0) = b) : b ≤ (Int.toNat a) := by lia
theorem oy3 {a b : Int} (h0 : a ≤ (min b 127)) : a ≤ b := by lia
theorem oz3 {a b : Nat} (h0 : (a + 1) ≤ b) : (((b - a) : Nat) : Int) = ((((b - (a + 1)) : Nat) : Int) + 1) := by lia
theorem oa4 {a b : Nat} (h0 : (a + 1) < b) : b = ((b - 1) + 1) := by lia
theorem ob4 {a b : Nat} (h0 : ¬(a ≥ b)) : a ≤ ((a + b) / 2) := by lia
theorem oc4 {a b c d : Nat} (h0 : a < (b + 1)) (h1 : ((c < d) ∧ (d ≤ b))) : (a - 1) < b := by omega
theorem od4 {a b : Nat} (h0 : a = b) (h1 : 2 ≤ b) : 1 ≤ a := by (subst h0; lia)
theorem oe4 {a b c : Int} (h0 : (a - b) < ((c - b) + 1)) (h1 : c ≤ 127) : (Int.toNat a) < 128 := by (simp; lia)
theorem of4 {a : Nat} {b : Int} (h0 : (a - (min (Int.toNat b) a)) = a) (h1 : (Int.toNat b) > 0) : a = 0 := by lia
theorem og4 {a b : Nat} (h0 : a = b) (h1 : 2 ≤ b) : 2 ≤ a := by (subst h0; omega)
theorem oh4 {a b : Nat} : a ≤ (a + (b + 1)) := by exact Nat.le_add_right a (b + 1)
theorem oi4 {a b : Nat} (h0 : ¬(a ≥ b)) : ((a + b) / 2) < b := by lia
theorem oj4 {a b c d : Nat} (h0 : a < (b + 1)) (h1 : ¬(a = c)) (h2 : d ≤ a) (h3 : d = c) : (a - 1) < b := by lia
theorem ok4 {a b : Nat} (h0 : a ≤ (b + 1)) (h1 : b ≤ 900) : a ≤ 1000 := by lia
theorem ol4 {a : Nat} (h0 : 1 ≤ a) : (max a 1) = a := by exact Nat.max_eq_left h0
theorem om4 {a : Nat} : (min 48 a) ≤ 1048576 := by lia
theorem on4 {a b c : Nat} (h0 : ¬(a = b)) (h1 : c = b) (h2 : c ≤ a) : b ≤ (a - 1) := by lia
theorem oo4 {a b : Nat} (h0 : a ≤ (b + 1)) : (a + 1) ≤ ((b + 1) + 1) := by exact Nat.add_le_add_right h0 1
theorem op4 {a : Nat} : (max (a : Int) 0) = (a : Int) := by exact Int.ofNat_max_zero a
theorem oq4 {a : Nat} (h0 : a < 256) : (a / 64) < 8 := by lia
theorem or4 {a : Nat} (h0 : a < 128) : ¬(127 < a) := by lia
theorem os4 {a : Nat} (h0 : a < 64) : a ≤ 16777216 := by lia
theorem ot4 {a b : Int} (h0 : 0 ≤ a) (h1 : ((a + 1) * 1) ≤ b) : ((0 ≤ a) ∧ (a < b)) := by lia
theorem ou4 {a b : Nat} (h0 : a < b) : 1 ≤ (b - a) := by exact Nat.le_sub_of_add_le' h0
theorem ov4 {a b c d : Nat} (h0 : a < b) (h1 : (2 * b) ≤ (c + 2)) (h2 : c ≤ (d + 14)) (h3 : d ≤ 8) : a < 12 := by lia
theorem ow4 {a : Nat} (h0 : a ≤ 1) : ((max 0 (max (a + 1) 0)) + 1) ≤ 64 := by (simp; lia)
theorem ox4 {a : Nat} (h0 : ¬(a < 2)) : 1 ≤ a := by lia
theorem oy4 {a : Nat} (h0 : a < 128) : (a / 64) < 16 := by lia
theorem oz4 {a : Nat} : ((2 * a) + ((0 + 1) + 1)) = (2 * (a + 1)) := by exact Eq.symm (Nat.mul_succ 2 a)
theorem oa5 {a : Nat} (h0 : 128 ≤ a) : ((a - 128) + 128) = a := by exact Nat.sub_add_cancel h0
theorem ob5 {a : Int} (h0 : ¬(a < 0)) : 0 ≤ a := by exact Int.not_lt.mp h0
theorem oc5 {a b c : Nat} (h0 : a ≤ b) (h1 : c ≤ a) : c ≤ b := by exact Nat.le_trans h1 h0
theorem od5 {a : Nat} : 0 ≤ (a : Int) := by exact Int.natCast_nonneg a
theorem oe5 {a b : Nat} : (a - b) ≤ a := by exact Nat.sub_le a b
theorem of5 {a b c : Int} (h0 : (a + 1) < b) (h1 : b ≤ c) : (a + 1) < c := by exact Int.lt_of_lt_of_le h0 h1
theorem og5 {a b : Nat} (h0 : (a : Int) = (b : Int)) : a = b := by exact Int.ofNat_inj.mp h0
theorem oh5 {a b : Nat} (h0 : a ≤ 1048576) : (min a b) ≤ 16777216 := by lia
theorem oi5 {a b : Nat} (h0 : a ≤ b) : (a + (0 + 1)) ≤ (b + 1) := by exact Nat.add_le_add_right h0 (0 + 1)
theorem oj5 {a : Int} (h0 : a < 4) (h1 : 0 ≤ a) : ((a = 0) ∨ (((a = 1) ∨ (((a = 2) ∨ (a = 3)))))) := by lia
theorem ok5 {b : Nat} {a : Int} (h0 : a < (b : Int)) : a < (((b + 1) : Nat) : Int) := by (simp; lia)
theorem ol5 {a : Int} (h0 : a < 4) : (Int.toNat ((1 + a) - 0)) ≤ 4 := by (simp; lia)
theorem om5 {a b : Int} (h0 : a ≤ (min b 127)) : a ≤ 127 := by omega
theorem on5 {a : Nat} (h0 : ((((a = 91) ∨ (a = 92))) ∨ (128 ≤ a))) : ((a = 91) ∨ (((a = 92) ∨ (128 ≤ a)))) := by exact or_assoc.mp h0
theorem oo5 {a : Nat} (h0 : a = 0) : (max 0 a) = 0 := by (simp at *; omega)
theorem op5 {a b : Nat} (h0 : a ≤ b) : (a + (b - a)) = b := by exact Nat.add_sub_of_le h0
theorem oq5 {a b : Nat} (h0 : a = (3 + (2 * b))) : ((a + (0 + 1)) + 1) = (3 + (2 * (b + 1))) := by (subst h0; lia)
theorem or5 {a : Nat} (h0 : 0 < a) : a = ((a - 1) + 1) := by lia
theorem os5 {a b c : Nat} (h0 : a ≤ b) (h1 : c ≤ (a + (b - a))) : c ≤ b := by simp_all
theorem ot5 {a b c : Nat} (h0 : (a + 1) < b) : (a + (min c 0)) < b := by (simp; lia)
theorem ou5 {a : Nat} (h0 : a ≤ 1) : (a + 1) ≤ 64 := by exact Nat.lt_of_le_of_lt h0 (by decide)
theorem ov5 {b : Nat} {a : Int} (h0 : a < 4) (h1 : b < (Int.toNat ((1 + a) - 0))) : b < 4 := by (simp_all; omega)
theorem ow5 {a b : Nat} (h0 : a < b) : ((0 ≤ (a - 1)) ∧ ((a - 1) < b)) := by (simp; omega)
theorem ox5 {a b : Int} (h0 : (a + 1) < b) : (a + 1) ≤ b := by exact Int.le_of_lt h0
theorem oy5 {a : Int} : a ≤ (a + (0 : Int)) := by exact Int.le.intro 0 rfl
theorem oz5 {a b c : Nat} (h0 : a ≤ (b + 2)) (h1 : b ≤ (2 * c)) : a ≤ (2 * (c + 1)) := by lia
theorem oa6 {a b : Nat} (h0 : a ≠ b) (h1 : 1 ≤ b) (h2 : a ≤ (1 + (b - 1))) : (a + 1) ≤ b := by (simp_all; omega)
theorem ob6 {a b : Int} (h0 : a < b) : a ≤ (b - 1) := by exact Int.le_sub_one_of_lt h0
theorem oc6 {a b c : Nat} (h0 : a ≤ b) (h1 : b ≤ (2 * c)) (h2 : c ≤ 4) : a ≤ 8 := by lia
theorem od6 {a b c : Nat} (h0 : (a + b) < c) : a < c := by exact Nat.lt_of_add_right_lt h0
theorem oe6 {a c : Nat} {b : Int} (h0 : a < (Int.toNat ((min (max b 0) (c : Int)) - 0))) : a < c := by (simp_all; omega)
theorem of6 {a b c d : Nat} (h0 : ¬(a = b)) (h1 : c = b) (h2 : c ≤ a) (h3 : a < (d + 1)) : ((b < a) ∧ (a ≤ d)) := by lia
theorem og6 {a b : Nat} (h0 : (a - b) ≤ 0) (h1 : b ≤ a) : b = a := by lia
theorem oh6 {a b : Int} (h0 : a = b) (h1 : 0 ≤ b) : (((Int.toNat a) : Nat) : Int) = a := by (subst h0; lia)
theorem oi6 {a b : Nat} (h0 : a ≤ b) : a ≤ b := by omega
theorem oj6 {a b : Nat} (h0 : a < b) : (a + ((b - 1) - a)) < b := by omega
theorem ok6 {a b c d : Nat} (h0 : a < b) (h1 : ((c + (8 * b)) + 100) < d) : (((c + 3) + (8 * a)) + 100) < d := by lia
theorem ol6 {a b c d e : Nat} (h0 : (a + (4 * ((b + 1) + 1))) ≤ (4 * c)) (h1 : d ≤ 4) (h2 : e ≤ b) : ((a + d) + (4 * e)) ≤ (4 * c) := by lia
theorem om6 {a b : Int} (h0 : (max a 0) ≤ b) : 0 ≤ b := by lia
theorem on6 {a b c : Int} (h0 : a ≤ 127) (h1 : 0 ≤ a) (h2 : a ≤ b) (h3 : c ≤ a) : (max c 0) ≤ (min b 127) := by omega
theorem oo6 {a b c : Nat} (h0 : a < b) (h1 : (2 * b) ≤ (c + 2)) (h2 : c ≤ 8) : a < 6 := by lia
theorem op6 {a b c : Nat} : (Int.toNat ((((a - b) : Nat) : Int) + (c : Int))) = ((a - b) + c) := by lia
theorem oq6 {a : Nat} {b : Int} (h0 : a = 12) (h1 : b < 12) : (Int.toNat b) < a := by omega
theorem or6 {a b : Nat} (h0 : 1 ≤ a) (h1 : a < b) : (b - a) < b := by omega
theorem os6 {a b : Int} (h0 : a < b) : (a + 1) ≤ b := by exact Int.add_one_le_of_lt h0
theorem ot6 {a b : Nat} (h0 : ¬((((a - b) : Nat) : Int) < (a : Int))) (h1 : b ≤ a) : b = 0 := by omega
theorem ou6 {a b c : Nat} (h0 : ¬(((a < b) ∧ (b ≤ c)))) (h1 : ¬(b = a)) (h2 : b < (c + 1)) (h3 : a ≤ c) : b < c := by lia
theorem ov6 {a : Nat} (h0 : ¬(a < 2)) : 2 ≤ a := by exact Nat.le_of_not_lt h0
theorem ow6 {a b : Nat} (h0 : a = (3 + (2 * b))) (h1 : b < 6) : ((0 + 1) + a) ≤ 1048576 := by (subst h0; lia)
theorem ox6 {a b : Nat} : (Int.toNat ((((a - b) : Nat) : Int) + 0)) = ((a - b) + 0) := by exact Nat.left_eq_add.mpr rfl
theorem oy6 {e : Nat} {a b c d : Int} (h0 : a ≤ (b + 6)) (h1 : b ≤ (c + 1)) (h2 : c ≤ (d + (7 * (e : Int)))) : a ≤ (d + (7 * ((e : Int) + 1))) := by lia
theorem oz6 {a b c d : Nat} (h0 : a < b) (h1 : ((c + (8 * b)) + 100) < d) : ((c + (8 * a)) + 103) < d := by lia
theorem oa7 {a b : Int} (h0 : (max a 0) ≤ b) : a ≤ b := by lia
theorem ob7 {d : Nat} {a b c : Int} (h0 : a ≤ (b + 3)) (h1 : b ≤ (c + (3 * (d : Int)))) : a ≤ (c + (3 * ((d : Int) + 1))) := by lia
theorem oc7 {a : Nat} (h0 : a ≤ 127) : (min (a : Int) 127) = (a : Int) := by lia
theorem od7 {a b c : Nat} (h0 : a ≤ (10 * b)) (h1 : b ≤ 36) (h2 : c ≤ 1) : (((1 + c) + a) + 1) ≤ 10000 := by (simp; lia)
theorem oe7 {a b : Nat} (h0 : (min a b) = a) : a ≤ b := by lia
theorem of7 {a b c d e : Nat} (h0 : a ≤ b) (h1 : c = d) (h2 : b ≤ c) (h3 : d ≤ e) (h4 : e < 64) : (a + (0 + 1)) ≤ 1000 := by lia
theorem og7 {a : Nat} (h0 : a < 256) : (a - 128) < 128 := by omega
theorem oh7 {a b : Nat} (h0 : a = (3 + (2 * b))) (h1 : b < 6) : (((0 + 1) + a) + (0 + 1)) ≤ 1048576 := by (subst h0; lia)
theorem oi7 {a b c d : Nat} (h0 : a < (b + 1)) (h1 : (c + (4 * (b + 1))) ≤ (4 * d)) : ((c + (0 + 1)) + (4 * a)) ≤ (4 * d) := by lia
theorem oj7 {a b c : Nat} (h0 : ((a + (8 * b)) + 103) < c) : (((a + 3) + (8 * b)) + 100) < c := by lia
theorem ok7 {a b c d : Nat} (h0 : a = b) (h1 : c ≤ a) (h2 : b ≤ d) (h3 : d < 64) : c ≤ 1000 := by (subst h0; lia)
theorem ol7 {a b : Nat} (h0 : ((((a - b) : Nat) : Int) + 0) < (a : Int)) : 0 < b := by lia
theorem om7 {a : Nat} (h0 : 0 < a) : (a - 1) < a := by exact Nat.sub_one_lt_of_lt h0
theorem on7 {a : Int} (h0 : 0 ≤ a) : 0 ≤ (a + 1) := by exact Int.le_add_one h0
theorem oo7 {a b c : Nat} (h0 : a < b) (h1 : c ≤ a) : (c + (a - c)) < b := by simp_all
theorem op7 {a b c d : Nat} (h0 : a ≤ b) : a < ((c + (b + d)) + 1) := by lia
theorem oq7 {a b : Nat} (h0 : (a + 1) ≤ b) : (b - (a + 1)) < b := by omega
theorem or7 {a b c d : Nat} (h0 : ((a < b) ∧ (b ≤ c))) (h1 : b ≤ d) (h2 : d < (c + 1)) : ((a < d) ∧ (d ≤ c)) := by lia
theorem os7 {a b c : Nat} (h0 : ((a ≤ (3 * b)) ∧ (c ≤ (9 * b)))) : ((a ≤ (3 * (b + 1))) ∧ (c ≤ (9 * (b + 1)))) := by lia
theorem ot7 {a b : Nat} (h0 : a = 12) (h1 : b < a) : b < 12 := by exact Nat.lt_of_lt_of_eq h1 h0
theorem ou7 {a : Nat} (h0 : a ≤ 13) : a < 14 := by exact Nat.lt_succ_of_le h0
theorem ov7 {a : Nat} : 128 ≤ (128 + a) := by exact Nat.le_add_right 128 a
theorem ow7 {a : Nat} (h0 : a ≤ 128) : a ≤ 1048576 := by exact Nat.le_trans h0 (by decide)
theorem ox7 {a b c : Nat} (h0 : a = ((b + 1) + c)) : a = (b + (c + 1)) := by (subst h0; lia)
theorem oy7 {a : Nat} (h0 : a ≤ 100) : a ≤ 10000 := by exact Nat.le_trans h0 (by decide)
theorem oz7 {a b : Nat} (h0 : a < (b + 1)) (h1 : 1 ≤ a) : (a - 1) < b := by exact Nat.sub_lt_right_of_lt_add h1 h0
theorem oa8 {a b : Int} (h0 : a = b) (h1 : b ≤ 127) : (Int.toNat a) < 128 := by (simp; lia)
theorem ob8 {a b c d : Nat} (h0 : a < b) (h1 : (c + b) < d) : ((c + 1) + a) < d := by lia
theorem oc8 {a b c : Nat} (h0 : (a + (b + 1)) = c) : ((a + 1) + b) = c := by (subst h0; lia)
theorem od8 {a b c : Nat} (h0 : a ≤ (2 * b)) (h1 : c ≤ 2) : (c + a) ≤ (2 * (b + 1)) := by lia
theorem oe8 {a b c : Nat} (h0 : ((a + b) + 1) < c) : a < c := by lia
theorem of8 {a b c : Nat} (h0 : ((a ≤ b) ∧ (b < c))) : a ≤ b := by omega
theorem og8 {a b : Int} (h0 : a ≤ b) (h1 : a ≤ 127) : a ≤ (min b 127) := by lia
theorem oh8 {a b c : Nat} (h0 : ((a + 1) + 1) < (b + 1)) (h1 : c ≤ a) : c < b := by lia
theorem oi8 {a b : Int} (h0 : 0 ≤ a) (h1 : b ≤ a) : (max b 0) ≤ a := by lia
theorem oj8 {a : Nat} (h0 : 1 ≤ a) : (1 + (a - 1)) ≤ a := by simp_all
theorem ok8 {a b : Nat} (h0 : a ≤ (9 * b)) (h1 : b ≤ 30) : ((1 + a) + 1) ≤ 1000 := by (simp; lia)
theorem ol8 {a b : Nat} (h0 : a ≤ b) : (a + (b - a)) ≤ b := by simp_all
theorem om8 {a b c : Nat} (h0 : ((a ≤ b) ∧ (b < c))) : b < c := by simp_all
theorem on8 {e : Nat} {a b c d : Int} (h0 : a ≤ (b + 1)) (h1 : b ≤ (c + 1)) (h2 : c ≤ (d + (2 * (e : Int)))) : a ≤ (d + (2 * (((e + 1) : Nat) : Int))) := by (simp; lia)
theorem oo8 {a b : Nat} {c : Int} (h0 : (a : Int) = ((b : Int) + 1)) (h1 : c < (a : Int)) : (Int.toNat c) < (b + 1) := by simp_all
theorem op8 {a b c d : Nat} (h0 : a < b) (h1 : (c + b) < d) : ((c + a) + 1) < d := by lia
theorem oq8 {a b c : Nat} (h0 : ((((a - b) : Nat) : Int) + (c : Int)) < (a : Int)) : c < b := by lia
theorem or8 {a b c : Nat} (h0 : (a + 1) < (b + 1)) (h1 : c < (a + 1)) : c < b := by lia
theorem os8 {a : Nat} : 0 ≤ ((a : Int) % 16) := by exact Int.zero_le_ofNat (a % Int.natAbs 16)
theorem ot8 {a b c : Nat} (h0 : a < (b + 1)) (h1 : ((b + 1) - (0 + 1)) ≤ a) (h2 : c < (b + 1)) (h3 : ((b + 1) - (0 + 1)) ≤ c) : c = a := by lia
theorem ou8 {a : Nat} (h0 : ((a = 124) ∨ (a = 41))) : ((a ≠ 42) ∧ (((a ≠ 43) ∧ (((a ≠ 63) ∧ (a ≠ 123)))))) := by lia
theorem ov8 {a b : Nat} (h0 : a ≤ (2 * b)) (h1 : b ≤ 30) : a < 64 := by lia
theorem ow8 {a b : Int} (h0 : ((0 ≤ a) ∧ (a < 16))) (h1 : 0 ≤ b) : 0 ≤ (b + a) := by lia
theorem ox8 {a b : Nat} {c : Int} (h0 : a = b) (h1 : (Int.toNat c) < b) : c < (a : Int) := by (subst h0; lia)
theorem oy8 {a : Int} : a ≤ (a + (3 * (0 : Int))) := by exact Int.le.intro (3 * 0) rfl
theorem oz8 {a b : Nat} (h0 : a ≤ (9 * b)) : a ≤ (9 * (b + 1)) := by lia
theorem oa9 {a b : Nat} (h0 : a ≤ b) (h1 : b ≤ 1000) : a ≤ 1000 := by exact Nat.le_trans h0 h1
theorem ob9 {a b c : Nat} (h0 : ((a + b) + 1) < c) : ((a + 1) + b) < c := by lia
theorem oc9 {a : Int} : a ≤ a := by exact Int.le_refl a
theorem od9 {a b : Nat} (h0 : (2 * a) ≤ (b + 1)) : (2 * (a + 1)) ≤ (((b + 1) + 1) + 1) := by lia
theorem oe9 {a : Nat} (h0 : ((a : Int) + 1) = 1) : a = 0 := by lia
theorem of9 {a b c : Nat} (h0 : a = b) (h1 : c = b) (h2 : ¬(a < 2)) : 0 < c := by lia
theorem og9 {a b : Nat} (h0 : a < b) : ((0 ≤ a) ∧ (a < b)) := by exact if_false_right.mp h0
theorem oh9 {a b : Nat} (h0 : (a + 1) ≤ b) : ((a + 1) + (b - (a + 1))) ≤ b := by simp_all
theorem oi9 {a b : Int} (h0 : a ≤ (b + (3 * ((((0 + 1) + 1) : Nat) : Int)))) : a ≤ (b + 6) := by exact Int.le_def.mpr h0
theorem oj9 {b : Nat} {a : Int} (h0 : (Int.toNat a) < b) : a < (b : Int) := by exact Int.lt_of_toNat_lt h0
theorem ok9 {a b c : Nat} (h0 : a ≤ b) : (a + 1) ≤ ((c + 1) + b) := by lia
theorem ol9 {a b : Nat} (h0 : (a + 0) = b) : a = b := by (simp at *; omega)
theorem om9 {a b : Int} (h0 : ((0 ≤ a) ∧ (b ≤ 127))) : (b + 1) ≤ 128 := by lia
theorem on9 {a : Nat} {b c : Int} (h0 : a < (Int.toNat (b - c))) : ((c ≤ (c + (a : Int))) ∧ ((c + (a : Int)) < b)) := by (simp_all; omega)
theorem oo9 {a b c : Nat} (h0 : (a + (b + 1)) ≤ c) : a ≤ c := by exact Nat.le_of_add_right_le h0
theorem op9 {a b : Nat} (h0 : ¬(a = b)) (h1 : b ≤ a) : (b + 1) ≤ a := by lia
theorem oq9 {a b : Int} (h0 : a = b) : (((0 + b) - a) + 1) = 1 := by simp_all
theorem or9 {a b : Nat} (h0 : a ≤ b) (h1 : b ≤ 8) : a ≤ 8 := by exact Nat.le_trans h0 h1
theorem os9 {a b c : Int} (h0 : a ≤ b) (h1 : 0 ≤ a) (h2 : b ≤ c) : 0 ≤ (c + 1) := by lia
theorem ot9 {a : Nat} : ((a : Int) % 8) = (((a % 8) : Nat) : Int) := by simp_all
theorem ou9 {a : Nat} : ((((0 * 16) + (((a / 16) : Nat) : Int)) * 16) + (((a % 16) : Nat) : Int)) = (a : Int) := by (simp; lia)
theorem ov9 {a b c d : Nat} (h0 : a ≤ b) (h1 : c ≤ d) : (c + a) ≤ (b + d) := by lia
theorem ow9 {a b c : Int} (h0 : 0 ≤ a) (h1 : a < b) (h2 : b ≤ c) : 0 ≤ (c + 1) := by lia
theorem ox9 {a b : Nat} : 1 ≤ ((a + b) + 1) := by exact Nat.le_add_left 1 (a + b)
theorem oy9 {a : Nat} (h0 : a < (1 + 1)) (h1 : 1 ≤ a) : a = 1 := by exact Nat.eq_of_le_of_lt_succ h1 h0
theorem oz9 {d : Nat} {a b c : Int} (h0 : a ≤ b) (h1 : c = 1) (h2 : c ≥ ((((0 + b) - a) + 1) + (d : Int))) : d = 0 := by lia
theorem oa10 {a : Int} : a ≤ (a + (7 * (0 : Int))) := by exact Int.le.intro (7 * 0) rfl
theorem ob10 {d : Nat} {a b c : Int} (h0 : a = 1) (h1 : a ≥ ((((0 + b) - c) + 1) + (d : Int))) (h2 : c ≤ b) : c = b := by lia
theorem oc10 {a : Nat} (h0 : (((a + 1) : Nat) : Int) = 1) : a = 0 := by lia
theorem od10 {a : Nat} : ¬(((a + 1) + 1) < 2) := by exact of_decide_eq_false rfl
theorem oe10 {a b c : Nat} (h0 : a ≤ b) (h1 : c ≤ (a + 1)) : c ≤ (b + 1) := by lia
theorem of10 {a : Nat} (h0 : 1 ≠ a) (h1 : 1 ≤ a) : (1 + 1) ≤ a := by lia
theorem og10 {a b : Int} (h0 : a ≤ b) (h1 : b ≤ a) : a = b := by exact Int.le_antisymm h0 h1
theorem oh10 {a b c : Nat} (h0 : (a + (b + 1)) < c) : ((a + b) + 1) < c := by omega
theorem oi10 {a : Nat} : 1 ≤ (a + 1) := by exact Nat.le_add_left 1 a
theorem oj10 {a b : Nat} (h0 : (2 * (a + 1)) ≤ ((b + 1) + 1)) : (2 * (a + 1)) ≤ ((b + 1) + 1) := by omega
theorem ok10 {a b c : Int} (h0 : (a + 1) < b) (h1 : c ≤ a) : c ≤ b := by lia
theorem ol10 {a b c : Nat} (h0 : a ≤ b) : (a + c) ≤ (b + c) := by exact Nat.add_le_add_right h0 c
theorem om10 {a b c d : Int} (h0 : ¬(((a ≤ b) ∧ (b ≤ c)))) (h1 : ¬(d < a)) (h2 : d ≤ b) : (c + 1) ≤ b := by lia
theorem on10 {a b c d : Int} (h0 : (a + 1) < b) (h1 : b < c) (h2 : c ≤ d) : (a + 1) < (d + 1) := by lia
theorem oo10 {a b c : Nat} (h0 : (a + (b + 1)) < c) : (a + b) < c := by exact Nat.lt_of_succ_lt h0
theorem op10 {a b c d : Int} (h0 : a ≤ b) (h1 : c ≤ a) (h2 : (d + 1) < c) : (d + 1) < (b + 1) := by lia
theorem oq10 {a : Nat} (h0 : a ≤ 100) : (((a + 1) + 1) + 1) ≤ 10000 := by (simp; lia)
theorem or10 {a : Nat} (h0 : a < 64) : (a + 1) ≤ 64 := by exact Nat.succ_le_of_lt h0
theorem os10 {b : Nat} {a : Int} (h0 : 0 ≤ a) (h1 : (Int.toNat a) < b) (h2 : b < 9223372036854775808) : (((-9223372036854775808) ≤ a) ∧ (a < 9223372036854775808)) := by (simp_all; omega)
theorem ot10 {a : Nat} (h0 : a ≤ 6) : ((2 + a) + 2) ≤ 10 := by (simp; lia)
theorem ou10 {a b c : Int} (h0 : a ≤ b) (h1 : (b + 1) < c) : a ≤ c := by lia
theorem ov10 {a b c d : Nat} (h0 : a ≤ b) (h1 : b < c) (h2 : ((d + a) / 2) < a) : ((d + a) / 2) < c := by lia
theorem ow10 {a : Nat} (h0 : a ≤ 1048576) : a < 9223372036854775808 := by exact Nat.lt_of_le_of_lt h0 (by decide)
theorem ox10 {a : Nat} (h0 : a < 9223372036854775808) : (a : Int) < 9223372036854775808 := by exact Int.lt_toNat.mp h0
theorem oy10 {a b : Nat} (h0 : a < b) : (0 + a) < b := by exact Nat.add_lt_of_lt_sub' h0
theorem oz10 {a b : Nat} (h0 : (a + 1) < (b + 1)) : a < b := by (simp at *; omega)
theorem oa11 {a : Nat} : (-1) < (a : Int) := by exact Rat.intCast_lt_intCast.mp rfl
theorem ob11 {a b : Nat} (h0 : 1 ≤ a) (h1 : a ≤ b) : 1 ≤ b := by exact Nat.le_trans h0 h1
theorem oc11 {a b c : Nat} (h0 : a ≤ b) (h1 : ((c + a) / 2) < a) : ((c + a) / 2) ≤ b := by lia
theorem od11 {a : Nat} (h0 : ((32 ≤ (a : Int)) ∧ ((a : Int) ≤ 126))) : 32 ≤ a := by lia
theorem oe11 {a : Nat} (h0 : (a : Int) < 128) : (128 + a) < 256 := by lia
theorem of11 {a b : Nat} (h0 : a = b) (h1 : b ≤ 47) : a < 64 := by (subst h0; lia)
theorem og11 {a b : Nat} (h0 : (a + 1) ≤ b) : ((a + 1) + 1) ≤ (b + 1) := by exact Nat.add_le_add_right h0 1
theorem oh11 {a b c : Nat} (h0 : a < (((b + c) / 2) + 1)) : a ≤ ((b + c) / 2) := by exact Nat.le_of_lt_succ h0
theorem oi11 {a b c : Int} (h0 : ¬(((a ≤ b) ∧ (b ≤ c)))) (h1 : ¬(b < a)) : (c + 1) ≤ b := by lia
theorem oj11 {a : Nat} (h0 : ((¬((a : Int) = 92)) ∧ (((¬((a : Int) = 93)) ∧ (((¬((a : Int) = 91)) ∧ (((¬((a : Int) = 94)) ∧ (¬((a : Int) = 45)))))))))) : ¬(a = 92) := by lia
theorem ok11 {a b : Nat} (h0 : ((a + b) / 2) < b) : (((a + b) / 2) + 1) ≤ b := by exact Nat.succ_le_of_lt h0
theorem ol11 {a : Nat} (h0 : ((32 ≤ (a : Int)) ∧ ((a : Int) ≤ 126))) : a < 127 := by omega
theorem om11 {b : Nat} {a : Int} : ((a + (b : Int)) + 1) = (a + (((b + 1) : Nat) : Int)) := by simp +arith
theorem on11 {a : Nat} (h0 : a < 127) : (a + 1) < 128 := by exact Nat.add_lt_of_lt_sub h0
theorem oo11 {d : Nat} {a b c e : Int} (h0 : a ≤ b) (h1 : ((((c + b) - a) + 1) + (d : Int)) ≤ e) : (c + ((d : Int) + 1)) ≤ e := by lia
theorem op11 {a b c : Int} (h0 : a ≤ b) (h1 : (c + 1) < a) : (c + 1) < b := by exact Int.lt_of_lt_of_le h1 h0
theorem oq11 {a b c : Int} (h0 : a = b) (h1 : a ≤ c) : b ≤ (c + 1) := by (subst h0; lia)
theorem or11 {a : Nat} (h0 : (a + 1) ≤ 48) : (a + 1) < 9223372036854775808 := by exact Nat.lt_of_le_of_lt h0 (by decide)
theorem os11 {a b c : Nat} (h0 : a ≤ b) (h1 : ((c + a) / 2) < a) : ((c + a) / 2) < b := by exact Nat.lt_of_lt_of_le h1 h0
theorem ot11 {c : Nat} {a b : Int} (h0 : ((a ≤ b) ∧ (b ≤ (((c + 1) : Nat) : Int)))) (h1 : ¬(b = (((c + 1) : Nat) : Int))) : ((a ≤ b) ∧ (b ≤ (c : Int))) := by (simp_all; omega)
theorem ou11 {c : Nat} {a b : Int} (h0 : ((a ≤ b) ∧ (b ≤ (c : Int)))) : ((a ≤ b) ∧ (b ≤ (((c + 1) : Nat) : Int))) := by (simp; lia)
theorem ov11 {a b c : Int} (h0 : a = b) (h1 : b ≤ c) : a ≤ (c + 1) := by (subst h0; lia)
theorem ow11 {a : Nat} (h0 : a ≤ 50) : (a + 1) ≤ 100 := by exact Nat.lt_of_le_of_lt h0 (by decide)
theorem ox11 {a : Nat} : (128 + (a : Int)) = (((128 + a) : Nat) : Int) := by simp at *
theorem oy11 {a : Nat} : (a : Int) < (((a + 1) : Nat) : Int) := by exact Int.lt.intro rfl
theorem oz11 {a : Nat} (h0 : a < 128) : a < 128 := by simp_all
theorem oa12 {a : Nat} (h0 : 0 < a) : (-(a : Int)) ≤ (-1) := by lia
theorem ob12 {a : Nat} (h0 : a = 0) : (a + 1) ≤ 64 := by (rw [h0]; decide)
theorem oc12 {a b : Nat} (h0 : a ≤ (b + 1)) : a < ((b + 1) + 1) := by exact Nat.lt_succ_of_le h0
theorem od12 {a : Nat} (h0 : a < 127) : a < 128 := by exact Nat.lt_succ_of_lt h0
theorem oe12 {a b c : Int} (h0 : a ≤ b) (h1 : c ≤ a) : c ≤ b := by exact Int.le_trans h1 h0
theorem of12 {a : Nat} : 0 ≤ (a - 1) := by exact Nat.zero_le (a - 1)
theorem og12 {b : Nat} {a c : Int} (h0 : a = (((b + 1) : Nat) : Int)) (h1 : c ≤ (b : Int)) : ((c ≤ a) ∧ (a ≤ (((b + 1) : Nat) : Int))) := by (subst h0; lia)
theorem oh12 {a : Nat} (h0 : a < 2) : a ≤ (16777216 + 1) := by lia
theorem oi12 {a b : Nat} (h0 : a = 128) (h1 : b < a) : (b : Int) ≤ 127 := by (subst h0; lia)
theorem oj12 {a : Nat} (h0 : ((((((48 ≤ a) ∧ (a < 58))) ∨ (((65 ≤ a) ∧ (a < 71))))) ∨ (((97 ≤ a) ∧ (a < 103))))) : a < 128 := by lia
theorem ok12 {a : Nat} (h0 : ((¬((a : Int) = 92)) ∧ (((¬((a : Int) = 93)) ∧ (((¬((a : Int) = 91)) ∧ (((¬((a : Int) = 94)) ∧ (¬((a : Int) = 45)))))))))) : a ≠ 93 := by lia
theorem ol12 {a b : Nat} (h0 : ¬(a < b)) : b ≤ a := by exact Nat.le_of_not_lt h0
theorem om12 {a b : Nat} (h0 : a ≤ ((a + b) / 2)) : a ≤ ((a + b) / 2) := by simp_all
theorem on12 {a : Nat} (h0 : a ≤ 1048576) : a ≤ 1048576 := by simp_all
theorem oo12 {a : Nat} (h0 : ((((((48 ≤ a) ∧ (a < 58))) ∨ (((65 ≤ a) ∧ (a < 71))))) ∨ (((97 ≤ a) ∧ (a < 103))))) : a < 103 := by lia
theorem op12 {a : Int} : a ≤ (a + (2 * (0 : Int))) := by exact Int.le.intro (2 * 0) rfl
theorem oq12 {a : Nat} (h0 : a ≤ 4) : a ≤ 1000 := by exact Nat.le_trans h0 (by decide)
theorem or12 {a b c d : Nat} (h0 : a ≤ b) (h1 : ((c < a) ∧ (a ≤ d))) : ¬(b = c) := by lia
theorem os12 {a : Int} (h0 : a ≤ 1114111) (h1 : 0 ≤ a) : ((0 ≤ a) ∧ (a ≤ 1114111)) := by exact ⟨h1, h0⟩
theorem ot12 {a b : Int} (h0 : (a + 1) < b) : a < b := by lia
theorem ou12 {b : Nat} {a : Int} (h0 : ¬(a = (b : Int))) (h1 : a < (((b + 1) : Nat) : Int)) : a < (b : Int) := by lia
theorem ov12 {b : Nat} {a : Int} (h0 : ¬((a + 1) = (b : Int))) (h1 : a < (b : Int)) : (a + 1) < (b : Int) := by exact Std.lt_of_le_of_ne h1 h0
theorem ow12 {a : Nat} (h0 : a ≤ 4) : a ≤ 10 := by exact Nat.le_trans h0 (by decide)
theorem ox12 {a : Nat} (h0 : ((a = 97) ∨ (a = 98))) : a ≠ 40 := by lia
theorem oy12 {a : Nat} (h0 : ((a = 97) ∨ (a = 98))) : a ≠ 91 := by lia
theorem oz12 {a : Nat} (h0 : ((a = 97) ∨ (a = 98))) : a ≠ 34 := by lia
theorem oa13 {a : Nat} (h0 : ((a = 97) ∨ (a = 98))) : a ≠ 46 := by lia
theorem ob13 {a : Nat} {b : Int} (h0 : (((a : Int) ≤ b) ∧ (b ≤ (a : Int)))) : b = (a : Int) := by exact Eq.symm ((fun {a b} => Int.le_antisymm_iff.mpr) h0)
theorem oc13 {a : Nat} (h0 : ((a = 97) ∨ (a = 98))) : a ≠ 123 := by lia
theorem od13 {a b : Int} (h0 : a ≤ b) : ((a - 1) + 1) < (b + 1) := by lia
theorem oe13 {a : Int} (h0 : 0 ≤ a) : ((0 ≤ a) ∧ (a < (a + 1))) := by lia
theorem of13 {a : Nat} (h0 : a = 12) : a < 9223372036854775808 := by (subst h0; simp)
theorem og13 {a b : Nat} (h0 : (a : Int) = ((b : Int) + 1)) : 0 < (a : Int) := by simp_all
theorem oh13 {a : Nat} (h0 : a ≤ 1000) : a ≤ (16777216 + 1) := by exact Nat.le_trans h0 (by decide)
theorem oi13 {a : Nat} (h0 : ((¬((a : Int) = 92)) ∧ (((¬((a : Int) = 93)) ∧ (((¬((a : Int) = 91)) ∧ (((¬((a : Int) = 94)) ∧ (¬((a : Int) = 45)))))))))) : a ≠ 91 := by lia
theorem oj13 {b : Nat} {a : Int} (h0 : a < (((b + 1) : Nat) : Int)) : a < ((((b + 1) + 1) : Nat) : Int) := by (simp; lia)
theorem ok13 {a b : Nat} {c : Int} (h0 : a = b) (h1 : c < (b : Int)) : c < (a : Int) := by (subst h0; omega)
theorem ol13 {a b : Int} (h0 : a = b) (h1 : 0 ≤ a) : 0 ≤ b := by exact le_of_le_of_eq h1 h0
theorem om13 {a : Nat} (h0 : a ≤ 64) : a ≤ 1048576 := by exact Nat.le_trans h0 (by decide)
theorem on13 {b : Nat} {a : Int} (h0 : a = (b : Int)) : (((b : Int) ≤ a) ∧ (a ≤ (b : Int))) := by exact Int.le_antisymm_iff.mp (id (Eq.symm h0))
theorem oo13 {a b : Nat} (h0 : a ≤ b) : ¬(b < a) := by exact Nat.not_lt.mpr h0
theorem op13 {a : Nat} : ((a : Int) / 8) = (((a / 8) : Nat) : Int) := by simp
theorem oq13 {b : Nat} {a : Int} (h0 : a ≤ (b : Int)) : a ≤ (((b + 1) : Nat) : Int) := by (simp; lia)
theorem or13 {a : Nat} : ¬(((a : Int) + 1) = 0) := by exact not_eq_of_beq_eq_false rfl
theorem os13 {a : Nat} (h0 : 0 < a) : 1 ≤ (a : Int) := by exact Int.toNat_le.mp h0
theorem ot13 {a : Nat} : ((a : Int) / 64) = (((a / 64) : Nat) : Int) := by simp_all
theorem ou13 {c : Nat} {a b : Int} : (((((Int.toNat (a - b)) : Nat) : Int) - (c : Int)) - 1) = ((((Int.toNat (a - b)) : Nat) : Int) - (((c + 1) : Nat) : Int)) := by lia
theorem ov13 {a : Nat} (h0 : a ≤ 1048576) : a ≤ 5592405 := by exact Nat.le_trans h0 (by decide)
theorem ow13 {a : Nat} : a ≤ a := by exact Nat.le_refl a
theorem ox13 {a : Nat} (h0 : ((¬((a : Int) = 92)) ∧ (((¬((a : Int) = 93)) ∧ (((¬((a : Int) = 91)) ∧ (((¬((a : Int) = 94)) ∧ (¬((a : Int) = 45)))))))))) : a ≠ 94 := by lia
theorem oy13 {a : Nat} (h0 : ((((((48 ≤ a) ∧ (a < 58))) ∨ (((65 ≤ a) ∧ (a < 71))))) ∨ (((97 ≤ a) ∧ (a < 103))))) : ¬(a = 0) := by lia
theorem oz13 {a : Nat} (h0 : 1 ≤ a) : 0 < a := by exact Nat.zero_lt_of_lt h0
theorem oa14 {a : Nat} (h0 : ((a : Int) + 1) = 1) : (a + 1) < 9223372036854775808 := by (cases h0; omega)
theorem ob14 {a : Nat} (h0 : ¬((63 : Int) < (a : Int))) : a ≤ 63 := by lia
theorem oc14 {a : Nat} : (((a + 1) : Nat) : Int) < ((((a + 1) + 1) : Nat) : Int) := by exact Int.lt.intro rfl
theorem od14 {a : Nat} {b c : Int} (h0 : a < (Int.toNat (b - c))) : 0 < ((((Int.toNat (b - c)) : Nat) : Int) - (a : Int)) := by omega
theorem oe14 {a b : Int} (h0 : (a + 1) < (a + 1)) : b = a := by omega
theorem of14 {a b : Int} (h0 : (a + 1) < (a + 1)) : a = b := by (simp +arith at *; done)
theorem og14 {a : Nat} (h0 : ((¬((a : Int) = 92)) ∧ (((¬((a : Int) = 93)) ∧ (((¬((a : Int) = 91)) ∧ (((¬((a : Int) = 94)) ∧ (¬((a : Int) = 45)))))))))) : a ≠ 45 := by lia
theorem oh14 {c : Nat} {a b : Int} (h0 : (Int.toNat (a - b)) ≤ c) : ((((Int.toNat (a - b)) : Nat) : Int) - (c : Int)) ≤ 0 := by lia
theorem oi14 {a b c : Int} (h0 : ((a ≤ (b + 1)) ∧ ((b + 1) ≤ b))) : c = b := by lia
theorem oj14 {a b c : Int} (h0 : ((a ≤ (b + 1)) ∧ ((b + 1) ≤ b))) : b = c := by lia
end Mine
section
open PySem PySem.W PyProof.Rows
namespace Mine
noncomputable abbrev pw : Program := PySem.Challenge.pw_pq0578_01
noncomputable abbrev S (x : String) : Str := Str.ofString x
noncomputable abbrev N : Value := .none
noncomputable abbrev i (n : Int) : Value := .int n 0
noncomputable abbrev j (n : Int) (t : Tok) : Value := .int n t
noncomputable abbrev s (x : String) (t : Tok) : Value := .str (Str.ofString x) t
noncomputable abbrev T (x : String) : Value := .type x
noncomputable abbrev B (x : String) : Value := .builtin x
noncomputable abbrev r (a : Addr) : Value := .ref a
noncomputable abbrev e (P : Params) (x : String) (t : Tok) (v : Value) : DictEntry := ⟨PyData.keyHash P (Str.ofString x), .str (Str.ofString x) t, v⟩
noncomputable abbrev tp (l : List Value) : Obj := ⟨.type "tuple", none, .seq l.toArray 0, #[]⟩
noncomputable abbrev fl (l : List Value) : Obj := ⟨.none, none, .fields l.toArray, #[]⟩
noncomputable abbrev cd (l : List Value) : Obj := ⟨.type "code", none, .fields l.toArray, #[]⟩
noncomputable abbrev dc (l : List DictEntry) (n : Nat) : Obj := ⟨.type "dict", none, .dict l.toArray n, #[]⟩
noncomputable def mi (k : Nat) : Stmt := pw.main.body.getD k (.Pass ⟨0, 0, 0, 0⟩)
noncomputable def cb : Stmt → List Stmt
 | .ClassDef _ _ _ b _ _ _ _ _ _ _ => b
 | _ => []
noncomputable def mj (k n : Nat) : Stmt := (cb (mi k)).getD n (.Pass ⟨0, 0, 0, 0⟩)
noncomputable def fA : Stmt → Arguments
 | .FunctionDef _ a _ _ _ _ _ _ _ _ => a
 | _ => ⟨[], [], none, [], [], none, []⟩
noncomputable def fB : Stmt → List Stmt
 | .FunctionDef _ _ b _ _ _ _ _ _ _ => b
 | _ => []
noncomputable def fS : Stmt → Scope
 | .FunctionDef _ _ _ _ _ _ x _ _ _ => x
 | _ => default
noncomputable abbrev fd (name qual : String) (st : Stmt) (gl : Addr) (df kd doc md co ct : Value) (bi : Addr) (an : Option Addr) : FuncData :=
 { name := Str.ofString name, qualname := Str.ofString qual, params := fA st, body := .stmts (fB st), scope := fS st, globals := gl, closure := [], defaults := df, kwdefaults := kd, doc := doc, pyModule := md, annotations := an, code := co, closureTuple := ct, builtins := bi }
noncomputable abbrev cq (a : String) (n : Tok) (b : String) (n1 n2 : Tok) (l c d e f : Int) (p : Value) (z : Bool) (q t u v : Value) (g h : Int) (n3 : Tok) : Obj := cd [s a n, s b n1, s "/claim/cut.py" n2, i l, i c, i d, i e, i f, p, .bool z, i 181, q, N, t, u, v, i g, i h, s "/claim/cut.py" n3]
noncomputable abbrev f0 (a b : String) (m : Stmt) : Obj := ⟨N, none, (.func (fd a b m 0 N N N N N N 0 none)), #[]⟩
noncomputable abbrev f1 (a b : String) (m : Stmt) (d : String) (t : Tok) (c : Addr) : Obj := ⟨(T "function"), none, (.func (fd a b m 3 N N N (s d t) (r c) N 0 none)), #[]⟩
noncomputable def addL : BT → Nat → List Obj → BT
 | t, _, [] => t
 | t, n, o :: l => addL (t.ins n o) (n + 1) l
noncomputable def updL : BT → List (Nat × Obj) → BT
 | t, [] => t
 | t, p :: l => updL (t.ins p.1 p.2) l
theorem krow {P : World → Prop} (a : ∀ w : World, P (w.withFollow "special-get-raises" false)) (b : ∀ w : World, P (w.withFollow "special-get-raises" true)) : ∀ w, P w := fun w => byRow2 "special-get-raises" a b w
noncomputable def es3 (P : Params) : List DictEntry := [e P "__name__" 165 (s "law_pq0578_01" 1482), e P "__doc__" 166 N, e P "__package__" 167 N, e P "__loader__" 168 (B "__main__.__loader__#opaque"), e P "__spec__" 169 N, e P "__annotations__" 170 (r 6), e P "__builtins__" 171 (r 4), e P "__file__" 173 (s "/claim/cut.py" 172), e P "__cached__" 174 N, e P "_wall" 193 (r 21), e P "SMALL" 197 (s "abcdefghijklmnopqrstuvwxyz" 196), e P "LETTERS" 200 (s "abcdefghijklmnopqrstuvwxyzABCDEFGHIJKLMNOPQRSTUVWXYZ" 199), e P "FIGURES" 202 (s "0123456789" 201), e P "NAME_SIGNS" 206 (s "abcdefghijklmnopqrstuvwxyzABCDEFGHIJKLMNOPQRSTUVWXYZ_0123456789" 205), e P "HEX_SIGNS" 209 (s "0123456789abcdefABCDEF" 208), e P "OCTAL_SIGNS" 211 (s "01234567" 210), e P "MOST_FIGURES" 213 (j 4000 212), e P "PLAIN_ESCAPES" 235 (r 22), e P "Position" 275 (r 46), e P "position_of" 287 (r 57), e P "ToolError" 325 (r 82), e P "RegexError" 341 (r 95), e P "Cursor" 501 (r 222), e P "hex_escape" 509 (r 233), e P "escaped_sign" 518 (r 240), e P "TOP" 522 (j 127 521), e P "HEX" 524 (s "0123456789abcdef" 523), e P "BRACKET_SIGNS" 526 (s "\\][^-" 525), e P "CLASS_SPANS" 597 (r 241), e P "CharSet" 855 (r 442), e P "show_code" 863 (r 453), e P "told" 873 (r 460), e P "named_class" 881 (r 467), e P "MOST_REPEAT" 885 (j 40 884), e P "MOST_NESTED" 887 (j 20 886), e P "BLANKS" 889 (s " \t\n" 888), e P "STRAY_SIGNS" 891 (s "*+?]}^$/ \t\n" 890), e P "NEWLINE" 893 (s "\n" 892), e P "Node" 929 (r 491), e P "Empty" 947 (r 505), e P "Never" 965 (r 517), e P "Chars" 999 (r 543), e P "Pair" 1043 (r 576), e P "Cat" 1061 (r 588), e P "Alt" 1079 (r 600), e P "Loop" 1118 (r 633), e P "Star" 1136 (r 645), e P "Plus" 1154 (r 657), e P "Opt" 1172 (r 669), e P "Repeat" 1209 (r 695), e P "spine" 1218 (r 704), e P "cat_all" 1227 (r 711), e P "chars_node" 1234 (r 718), e P "is_figure" 1241 (r 725), e P "RegexReader" 1426 (r 852), e P "read_regex" 1436 (r 864), e P "MARKS" 1440 (s "\"[](){}.*+?|^$/<%" 1439), e P "LOOSE" 1442 (j 0 1441), e P "ROW" 1444 (j 1 1443), e P "TIGHT" 1446 (j 2 1445), e P "show_sign" 1453 (r 871), e P "show_chars" 1460 (r 878), e P "show_count" 1468 (r 885), e P "show_at" 1474 (r 890), e P "show_regex" 1481 (r 897), e P "_law_figures" 1485 (s "0123456789abcdef" 1484), e P "_law_pen" 1491 (r 902), e P "_law_draw" 1504 (r 909), e P "_law_words" 1510 (r 914), e P "_law_held" 1516 (r 919), e P "_law_spans" 1525 (r 926), e P "_law_hex" 1532 (r 933), e P "_law_inner" 1539 (r 940), e P "_law_shown" 1551 (r 947), e P "_law_spelled" 1560 (r 954), e P "_law_class" 1566 (r 959), e P "_law_heard" 1573 (r 966), e P "_law_refused" 1579 (r 971), e P "law" 1597 (r 978)]
noncomputable def vs12 : List Value := [(i 1), (i 0), (r 20), (i 13), (i 0), (r 28), (i 22), (i 0), (r 56), (i 31), (i 0), (r 63), (i 42), (i 0), (r 91), (i 44), (i 0), (r 103), (i 141), (i 0), (r 232), (i 144), (i 0), (r 239), (i 160), (i 0), (r 282), (i 267), (i 0), (r 452), (i 274), (i 0), (r 459), (i 285), (i 0), (r 466), (i 296), (i 0), (r 473), (i 304), (i 0), (r 501), (i 306), (i 0), (r 513), (i 308), (i 0), (r 525), (i 316), (i 0), (r 551), (i 331), (i 0), (r 584), (i 333), (i 0), (r 596), (i 335), (i 0), (r 608), (i 345), (i 0), (r 641), (i 347), (i 0), (r 653), (i 349), (i 0), (r 665), (i 351), (i 0), (r 677), (i 365), (i 0), (r 703), (i 374), (i 0), (r 710), (i 381), (i 0), (r 717), (i 385), (i 0), (r 724), (i 387), (i 0), (r 731), (i 567), (i 0), (r 863), (i 578), (i 0), (r 870), (i 582), (i 0), (r 877), (i 588), (i 0), (r 884), (i 594), (i 0), (r 889), (i 619), (i 0), (r 896), (i 623), (i 0), (r 901), (i 625), (i 0), (r 908), (i 641), (i 0), (r 913), (i 652), (i 0), (r 918), (i 665), (i 0), (r 925), (i 673), (i 0), (r 932), (i 675), (i 0), (r 939), (i 679), (i 0), (r 946), (i 696), (i 0), (r 953), (i 707), (i 0), (r 958), (i 722), (i 0), (r 965), (i 727), (i 0), (r 970), (i 735), (i 0), (r 977)]
noncomputable def tb (P : Params) : BT := addL BT.nil 0 [boot_o_0 P, boot_o_1 P, boot_o_2 P, boot_o_3 P, boot_o_4 P, boot_o_5 P, boot_o_6 P, boot_o_7 P, boot_o_8 P, boot_o_9 P, boot_o_10 P]
noncomputable def t0 (P : Params) : BT := addL (updL (tb P) []) 11 [tp [], fl (vs12.take 0), cq "<module>" 182 "<module>" 183 184 1 0 0 0 0 (r 11) false (r 12) N N N 185 1 186, ⟨(T "frame"), none, .plain, #[(some (r 13)), (some (r 3)), (some (r 3)), none, (some (s "__main__" 164)), none, (some (r 0))]⟩]
noncomputable def S0 (w : World) (os : OsState) : SharedT := ⟨t0 w.params, 15, {}, #[], {}, 187, os⟩
noncomputable def o20 : Obj := cq "_wall" 187 "_wall" 188 189 1 1 0 0 3 (r 15) true (r 16) (r 17) (r 18) (r 19) 191 1 192
noncomputable def o21 : Obj := f1 "_wall" "_wall" (mi 0) "__main__" 164 20
noncomputable def t1 (P : Params) : BT := addL (updL (t0 P) [(3, dc ((e P "__name__" 165 (s "grammarmill.source" 194)) :: ((es3 P).drop 1).take 16) 17), (12, fl (vs12.take 3))]) 15 [tp [], fl [], tp [(s "k" 190)], tp [], f0 "_wall" "_wall" (mi 0), o20, o21]
noncomputable def S1 (w : World) (os : OsState) : SharedT := ⟨t1 w.params, 22, {}, #[], {}, 214, os⟩
noncomputable def o22 (P : Params) : Obj := ⟨(T "dict"), none, (.dict #[e P "n" 214 (j 10 215), e P "t" 216 (j 9 217), e P "r" 218 (j 13 219), e P "f" 220 (j 12 221), e P "v" 222 (j 11 223), e P "a" 224 (j 7 225), e P "b" 226 (j 8 227)] 7), #[]⟩
noncomputable def t2 (P : Params) : BT := addL (updL (t1 P) [(3, dc ((e P "__name__" 165 (s "grammarmill.source" 194)) :: ((es3 P).drop 1).take 17) 18)]) 22 [o22 P]
noncomputable def S2 (w : World) (os : OsState) : SharedT := ⟨t2 w.params, 23, {}, #[], {}, 236, os⟩
noncomputable def o25 (P : Params) : Obj := ⟨(T "dict"), none, (.dict #[e P "__module__" 243 (s "grammarmill.source" 194), e P "__qualname__" 245 (s "Position" 244), e P "__firstlineno__" 247 (j 13 246), e P "__init__" 257 (r 36), e P "told" 264 (r 43), e P "__static_attributes__" 268 (r 44)] 6), #[]⟩
noncomputable def o28 : Obj := cq "Position" 238 "Position" 239 240 13 0 0 0 0 (r 26) false (r 27) N N N 241 13 242
noncomputable def o35 : Obj := cq "__init__" 248 "Position.__init__" 249 250 15 4 0 0 3 (r 30) true (r 31) (r 32) (r 33) (r 34) 255 15 256
noncomputable def o36 : Obj := f1 "__init__" "Position.__init__" (mj 10 0) "grammarmill.source" 194 35
noncomputable def o42 : Obj := cq "told" 258 "Position.told" 259 260 20 1 0 0 3 (r 37) true (r 38) (r 39) (r 40) (r 41) 262 20 263
noncomputable def o43 : Obj := f1 "told" "Position.told" (mj 10 1) "grammarmill.source" 194 42
noncomputable def o45 (P : Params) : Obj := ⟨(T "dict"), none, (.dict #[e P "__module__" 243 (s "grammarmill.source" 194), e P "__firstlineno__" 247 (j 13 246), e P "__init__" 257 (r 36), e P "told" 264 (r 43), e P "__static_attributes__" 268 (r 44), e P "__dict__" 270 (r 47), e P "__weakref__" 272 (r 48), e P "__doc__" 273 N] 4), #[]⟩
noncomputable def o46 : Obj := ⟨(T "type"), none, (.cls ⟨S "Position", [(T "object")], [(r 46), (T "object")], 45, S "Position", true, [], [], false, none, false⟩), #[none, none, (some (s "Position" 236)), (some (s "Position" 244)), (some (B "object.__new__")), (some (.bool true))]⟩
noncomputable def o56 : Obj := cq "position_of" 276 "position_of" 277 278 22 2 0 0 3 (r 51) true (r 52) (r 53) (r 54) (r 55) 285 22 286
noncomputable def o57 : Obj := f1 "position_of" "position_of" (mi 11) "grammarmill.source" 194 56
noncomputable def t3 (P : Params) : BT := addL (updL (t2 P) [(3, dc ((e P "__name__" 165 (s "grammarmill.source" 194)) :: ((es3 P).drop 1).take 19) 20), (12, fl (vs12.take 9))]) 23 [tp [], ⟨(T "builtin_function_or_method"), none, (.fields #[(B "type.__prepare__"), (T "type")]), #[]⟩, o25 P, tp [], fl [(i 15), (i 4), (r 35), (i 20), (i 4), (r 42)], o28, ⟨(T "frame"), none, .plain, #[(some (r 28)), (some (r 3)), (some (r 25)), none, (some (s "grammarmill.source" 194)), none, (some (r 0))]⟩, tp [], fl [], tp [(s "self" 251), (s "offset" 252), (s "line" 253), (s "column" 254)], tp [], f0 "__init__" "Position.__init__" (mj 10 0), o35, o36, tp [], fl [], tp [(s "self" 261)], tp [], f0 "told" "Position.told" (mj 10 1), o42, o43, tp [(s "column" 265), (s "line" 266), (s "offset" 267)], o45 P, o46, ⟨(T "getset_descriptor"), none, (.fields #[(s "__dict__" 269), (r 46), (B "function.__dict__"), (B "function.__dict__#set")]), #[]⟩, ⟨(T "getset_descriptor"), none, (.fields #[(s "__weakref__" 271), (r 46), (B "ExceptionGroup.__weakref__"), N]), #[]⟩, ⟨(T "super"), none, (.fields #[(r 46), (r 46), (r 46)]), #[]⟩, ⟨(T "builtin_function_or_method"), none, (.fields #[(B "object.__init_subclass__"), (r 46)]), #[]⟩, tp [], fl [], tp [(s "text" 279), (s "offset" 280), (s "at" 281), (s "line" 282), (s "begun" 283), (s "here" 284)], tp [], f0 "position_of" "position_of" (mi 11), o56, o57]
noncomputable def S3 (w : World) (os : OsState) : SharedT := ⟨t3 w.params, 58, {}, #[], {}, 288, os⟩
noncomputable def o2_4 (P : Params) : Obj := ⟨N, none, (.dict #[e P "type.__subclasses__.Exception.0" 322 (i 82), e P "type.__subclasses__.Exception.n" 323 (i 1)] 2), #[]⟩
noncomputable def o60 (P : Params) : Obj := ⟨(T "dict"), none, (.dict #[e P "__module__" 295 (s "grammarmill.source" 194), e P "__qualname__" 297 (s "ToolError" 296), e P "__firstlineno__" 299 (j 31 298), e P "__init__" 308 (r 72), e P "told" 315 (r 79), e P "__static_attributes__" 318 (r 80)] 6), #[]⟩
noncomputable def o63 : Obj := cq "ToolError" 290 "ToolError" 291 292 31 0 0 0 0 (r 61) false (r 62) N N N 293 31 294
noncomputable def o65 : Obj := tp [N]
noncomputable def o71 : Obj := cq "__init__" 300 "ToolError.__init__" 301 302 33 3 0 0 3 (r 66) true (r 67) (r 68) (r 69) (r 70) 306 33 307
noncomputable def o72 : Obj := ⟨(T "function"), none, (.func (fd "__init__" "ToolError.__init__" (mj 12 0) 3 (r 65) N N (s "grammarmill.source" 194) (r 71) N 0 none)), #[]⟩
noncomputable def o78 : Obj := cq "told" 309 "ToolError.told" 310 311 38 1 0 0 3 (r 73) true (r 74) (r 75) (r 76) (r 77) 313 38 314
noncomputable def o79 : Obj := f1 "told" "ToolError.told" (mj 12 1) "grammarmill.source" 194 78
noncomputable def o81 (P : Params) : Obj := ⟨(T "dict"), none, (.dict #[e P "__module__" 295 (s "grammarmill.source" 194), e P "__firstlineno__" 299 (j 31 298), e P "__init__" 308 (r 72), e P "told" 315 (r 79), e P "__static_attributes__" 318 (r 80), e P "__weakref__" 320 (r 83), e P "__doc__" 321 N] 3), #[]⟩
noncomputable def t4 (P : Params) : BT := addL (updL (t3 P) [(2, o2_4 P), (3, dc ((e P "__name__" 165 (s "grammarmill.source" 194)) :: ((es3 P).drop 1).take 20) 21), (12, fl (vs12.take 12))]) 58 [tp [(T "Exception")], ⟨(T "builtin_function_or_method"), none, (.fields #[(B "type.__prepare__"), (T "type")]), #[]⟩, o60 P, tp [], fl [(i 33), (i 4), (r 71), (i 38), (i 4), (r 78)], o63, ⟨(T "frame"), none, .plain, #[(some (r 63)), (some (r 3)), (some (r 60)), none, (some (s "grammarmill.source" 194)), none, (some (r 0))]⟩, o65, tp [], fl [], tp [(s "self" 303), (s "what" 304), (s "at" 305)], tp [], f0 "__init__" "ToolError.__init__" (mj 12 0), o71, o72, tp [], fl [], tp [(s "self" 312)], tp [], f0 "told" "ToolError.told" (mj 12 1), o78, o79, tp [(s "at" 316), (s "what" 317)], o81 P, ⟨(T "type"), none, (.cls ⟨S "ToolError", [(T "Exception")], [(r 82), (T "Exception"), (T "BaseException"), (T "object")], 81, S "ToolError", true, [], [], false, none, false⟩), #[(some (r 58)), none, (some (s "ToolError" 288)), (some (s "ToolError" 296)), (some (B "Exception.__new__")), (some (.bool true))]⟩, ⟨(T "getset_descriptor"), none, (.fields #[(s "__weakref__" 319), (r 82), (B "ExceptionGroup.__weakref__"), N]), #[]⟩, ⟨(T "super"), none, (.fields #[(r 82), (r 82), (r 82)]), #[]⟩, ⟨(T "builtin_function_or_method"), none, (.fields #[(B "object.__init_subclass__"), (r 82)]), #[]⟩]
noncomputable def S4 (w : World) (os : OsState) : SharedT := ⟨t4 w.params, 86, {}, #[], {}, 326, os⟩
noncomputable def o82_5 : Obj := ⟨(T "type"), none, (.cls ⟨S "ToolError", [(T "Exception")], [(r 82), (T "Exception"), (T "BaseException"), (T "object")], 81, S "ToolError", true, [], [(r 95)], false, none, false⟩), #[(some (r 58)), none, (some (s "ToolError" 288)), (some (s "ToolError" 296)), (some (B "Exception.__new__")), (some (.bool true))]⟩
noncomputable def o88 (P : Params) : Obj := ⟨(T "dict"), none, (.dict #[e P "__module__" 333 (s "grammarmill.source" 194), e P "__qualname__" 335 (s "RegexError" 334), e P "__firstlineno__" 337 (j 42 336), e P "__static_attributes__" 338 (r 93)] 4), #[]⟩
noncomputable def o91 : Obj := cq "RegexError" 328 "RegexError" 329 330 42 0 0 0 0 (r 89) false (r 90) N N N 331 42 332
noncomputable def o94 (P : Params) : Obj := ⟨(T "dict"), none, (.dict #[e P "__module__" 333 (s "grammarmill.source" 194), e P "__firstlineno__" 337 (j 42 336), e P "__static_attributes__" 338 (r 93), e P "__doc__" 339 N] 2), #[]⟩
noncomputable def o95 : Obj := ⟨(T "type"), none, (.cls ⟨S "RegexError", [(r 82)], [(r 95), (r 82), (T "Exception"), (T "BaseException"), (T "object")], 94, S "RegexError", true, [], [], false, none, false⟩), #[(some (r 86)), none, (some (s "RegexError" 326)), (some (s "RegexError" 334)), (some (B "Exception.__new__")), (some (.bool true))]⟩
noncomputable def t5 (P : Params) : BT := addL (updL (t4 P) [(3, dc ((e P "__name__" 165 (s "grammarmill.source" 194)) :: ((es3 P).drop 1).take 21) 22), (12, fl (vs12.take 15)), (82, o82_5)]) 86 [tp [(r 82)], ⟨(T "builtin_function_or_method"), none, (.fields #[(B "type.__prepare__"), (T "type")]), #[]⟩, o88 P, tp [], fl [], o91, ⟨(T "frame"), none, .plain, #[(some (r 91)), (some (r 3)), (some (r 88)), none, (some (s "grammarmill.source" 194)), none, (some (r 0))]⟩, tp [], o94 P, o95, ⟨(T "super"), none, (.fields #[(r 95), (r 95), (r 95)]), #[]⟩, ⟨(T "builtin_function_or_method"), none, (.fields #[(B "object.__init_subclass__"), (r 95)]), #[]⟩]
noncomputable def S5 (w : World) (os : OsState) : SharedT := ⟨t5 w.params, 98, {}, #[], {}, 342, os⟩
noncomputable def o100 (P : Params) : Obj := ⟨(T "dict"), none, (.dict #[e P "__module__" 349 (s "grammarmill.source" 194), e P "__qualname__" 351 (s "Cursor" 350), e P "__firstlineno__" 353 (j 44 352), e P "__init__" 363 (r 112), e P "is_done" 370 (r 119), e P "peek" 380 (r 127), e P "starts" 388 (r 134), e P "take" 396 (r 141), e P "skip" 404 (r 148), e P "take_while" 413 (r 155), e P "take_line" 420 (r 162), e P "skip_blanks" 429 (r 170), e P "name" 437 (r 177), e P "number" 446 (r 184), e P "position" 453 (r 191), e P "position_at" 461 (r 198), e P "coded" 473 (r 205), e P "escape" 481 (r 212), e P "quoted" 491 (r 219), e P "__static_attributes__" 494 (r 220)] 20), #[]⟩
noncomputable def o103 : Obj := cq "Cursor" 344 "Cursor" 345 346 44 0 0 0 0 (r 101) false (r 102) N N N 347 44 348
noncomputable def o105 : Obj := tp [(j 0 354)]
noncomputable def o111 : Obj := cq "__init__" 355 "Cursor.__init__" 356 357 46 3 0 0 3 (r 106) true (r 107) (r 108) (r 109) (r 110) 361 46 362
noncomputable def o112 : Obj := ⟨(T "function"), none, (.func (fd "__init__" "Cursor.__init__" (mj 14 0) 3 (r 105) N N (s "grammarmill.source" 194) (r 111) N 0 none)), #[]⟩
noncomputable def o118 : Obj := cq "is_done" 364 "Cursor.is_done" 365 366 50 1 0 0 3 (r 113) true (r 114) (r 115) (r 116) (r 117) 368 50 369
noncomputable def o119 : Obj := f1 "is_done" "Cursor.is_done" (mj 14 1) "grammarmill.source" 194 118
noncomputable def o120 : Obj := tp [(j 0 371)]
noncomputable def o126 : Obj := cq "peek" 372 "Cursor.peek" 373 374 53 2 0 0 3 (r 121) true (r 122) (r 123) (r 124) (r 125) 378 53 379
noncomputable def o127 : Obj := ⟨(T "function"), none, (.func (fd "peek" "Cursor.peek" (mj 14 2) 3 (r 120) N N (s "grammarmill.source" 194) (r 126) N 0 none)), #[]⟩
noncomputable def o133 : Obj := cq "starts" 381 "Cursor.starts" 382 383 59 2 0 0 3 (r 128) true (r 129) (r 130) (r 131) (r 132) 386 59 387
noncomputable def o134 : Obj := f1 "starts" "Cursor.starts" (mj 14 3) "grammarmill.source" 194 133
noncomputable def o140 : Obj := cq "take" 389 "Cursor.take" 390 391 62 1 0 0 3 (r 135) true (r 136) (r 137) (r 138) (r 139) 394 62 395
noncomputable def o141 : Obj := f1 "take" "Cursor.take" (mj 14 4) "grammarmill.source" 194 140
noncomputable def o147 : Obj := cq "skip" 397 "Cursor.skip" 398 399 69 2 0 0 3 (r 142) true (r 143) (r 144) (r 145) (r 146) 402 69 403
noncomputable def o148 : Obj := f1 "skip" "Cursor.skip" (mj 14 5) "grammarmill.source" 194 147
noncomputable def o154 : Obj := cq "take_while" 405 "Cursor.take_while" 406 407 75 2 0 0 3 (r 149) true (r 150) (r 151) (r 152) (r 153) 411 75 412
noncomputable def o155 : Obj := f1 "take_while" "Cursor.take_while" (mj 14 6) "grammarmill.source" 194 154
noncomputable def o161 : Obj := cq "take_line" 414 "Cursor.take_line" 415 416 81 1 0 0 3 (r 156) true (r 157) (r 158) (r 159) (r 160) 418 81 419
noncomputable def o162 : Obj := f1 "take_line" "Cursor.take_line" (mj 14 7) "grammarmill.source" 194 161
noncomputable def o163 : Obj := tp [(s " \t" 421)]
noncomputable def o169 : Obj := cq "skip_blanks" 422 "Cursor.skip_blanks" 423 424 84 2 0 0 3 (r 164) true (r 165) (r 166) (r 167) (r 168) 427 84 428
noncomputable def o170 : Obj := ⟨(T "function"), none, (.func (fd "skip_blanks" "Cursor.skip_blanks" (mj 14 8) 3 (r 163) N N (s "grammarmill.source" 194) (r 169) N 0 none)), #[]⟩
noncomputable def o176 : Obj := cq "name" 430 "Cursor.name" 431 432 87 1 0 0 3 (r 171) true (r 172) (r 173) (r 174) (r 175) 435 87 436
noncomputable def o177 : Obj := f1 "name" "Cursor.name" (mj 14 9) "grammarmill.source" 194 176
noncomputable def o183 : Obj := cq "number" 438 "Cursor.number" 439 440 93 1 0 0 3 (r 178) true (r 179) (r 180) (r 181) (r 182) 444 93 445
noncomputable def o184 : Obj := f1 "number" "Cursor.number" (mj 14 10) "grammarmill.source" 194 183
noncomputable def o190 : Obj := cq "position" 447 "Cursor.position" 448 449 101 1 0 0 3 (r 185) true (r 186) (r 187) (r 188) (r 189) 451 101 452
noncomputable def o191 : Obj := f1 "position" "Cursor.position" (mj 14 11) "grammarmill.source" 194 190
noncomputable def o197 : Obj := cq "position_at" 454 "Cursor.position_at" 455 456 104 2 0 0 3 (r 192) true (r 193) (r 194) (r 195) (r 196) 459 104 460
noncomputable def o198 : Obj := f1 "position_at" "Cursor.position_at" (mj 14 12) "grammarmill.source" 194 197
noncomputable def o204 : Obj := cq "coded" 462 "Cursor.coded" 463 464 107 4 0 0 3 (r 199) true (r 200) (r 201) (r 202) (r 203) 471 107 472
noncomputable def o205 : Obj := f1 "coded" "Cursor.coded" (mj 14 13) "grammarmill.source" 194 204
noncomputable def o211 : Obj := cq "escape" 474 "Cursor.escape" 475 476 115 1 0 0 3 (r 206) true (r 207) (r 208) (r 209) (r 210) 479 115 480
noncomputable def o212 : Obj := f1 "escape" "Cursor.escape" (mj 14 14) "grammarmill.source" 194 211
noncomputable def o218 : Obj := cq "quoted" 482 "Cursor.quoted" 483 484 129 2 0 0 3 (r 213) true (r 214) (r 215) (r 216) (r 217) 489 129 490
noncomputable def o219 : Obj := f1 "quoted" "Cursor.quoted" (mj 14 15) "grammarmill.source" 194 218
noncomputable def o221 (P : Params) : Obj := ⟨(T "dict"), none, (.dict #[e P "__module__" 349 (s "grammarmill.source" 194), e P "__firstlineno__" 353 (j 44 352), e P "__init__" 363 (r 112), e P "is_done" 370 (r 119), e P "peek" 380 (r 127), e P "starts" 388 (r 134), e P "take" 396 (r 141), e P "skip" 404 (r 148), e P "take_while" 413 (r 155), e P "take_line" 420 (r 162), e P "skip_blanks" 429 (r 170), e P "name" 437 (r 177), e P "number" 446 (r 184), e P "position" 453 (r 191), e P "position_at" 461 (r 198), e P "coded" 473 (r 205), e P "escape" 481 (r 212), e P "quoted" 491 (r 219), e P "__static_attributes__" 494 (r 220), e P "__dict__" 496 (r 223), e P "__weakref__" 498 (r 224), e P "__doc__" 499 N] 4), #[]⟩
noncomputable def o222 : Obj := ⟨(T "type"), none, (.cls ⟨S "Cursor", [(T "object")], [(r 222), (T "object")], 221, S "Cursor", true, [], [], false, none, false⟩), #[none, none, (some (s "Cursor" 342)), (some (s "Cursor" 350)), (some (B "object.__new__")), (some (.bool true))]⟩
noncomputable def t6 (P : Params) : BT := addL (updL (t5 P) [(3, dc ((e P "__name__" 165 (s "grammarmill.source" 194)) :: ((es3 P).drop 1).take 22) 23), (12, fl (vs12.take 18))]) 98 [tp [], ⟨(T "builtin_function_or_method"), none, (.fields #[(B "type.__prepare__"), (T "type")]), #[]⟩, o100 P, tp [], fl [(i 46), (i 4), (r 111), (i 50), (i 4), (r 118), (i 53), (i 4), (r 126), (i 59), (i 4), (r 133), (i 62), (i 4), (r 140), (i 69), (i 4), (r 147), (i 75), (i 4), (r 154), (i 81), (i 4), (r 161), (i 84), (i 4), (r 169), (i 87), (i 4), (r 176), (i 93), (i 4), (r 183), (i 101), (i 4), (r 190), (i 104), (i 4), (r 197), (i 107), (i 4), (r 204), (i 115), (i 4), (r 211), (i 129), (i 4), (r 218)], o103, ⟨(T "frame"), none, .plain, #[(some (r 103)), (some (r 3)), (some (r 100)), none, (some (s "grammarmill.source" 194)), none, (some (r 0))]⟩, o105, tp [], fl [], tp [(s "self" 358), (s "text" 359), (s "at" 360)], tp [], f0 "__init__" "Cursor.__init__" (mj 14 0), o111, o112, tp [], fl [], tp [(s "self" 367)], tp [], f0 "is_done" "Cursor.is_done" (mj 14 1), o118, o119, o120, tp [], fl [], tp [(s "self" 375), (s "ahead" 376), (s "at" 377)], tp [], f0 "peek" "Cursor.peek" (mj 14 2), o126, o127, tp [], fl [], tp [(s "self" 384), (s "word" 385)], tp [], f0 "starts" "Cursor.starts" (mj 14 3), o133, o134, tp [], fl [], tp [(s "self" 392), (s "sign" 393)], tp [], f0 "take" "Cursor.take" (mj 14 4), o140, o141, tp [], fl [], tp [(s "self" 400), (s "word" 401)], tp [], f0 "skip" "Cursor.skip" (mj 14 5), o147, o148, tp [], fl [], tp [(s "self" 408), (s "signs" 409), (s "begun" 410)], tp [], f0 "take_while" "Cursor.take_while" (mj 14 6), o154, o155, tp [], fl [], tp [(s "self" 417)], tp [], f0 "take_line" "Cursor.take_line" (mj 14 7), o161, o162, o163, tp [], fl [], tp [(s "self" 425), (s "signs" 426)], tp [], f0 "skip_blanks" "Cursor.skip_blanks" (mj 14 8), o169, o170, tp [], fl [], tp [(s "self" 433), (s "here" 434)], tp [], f0 "name" "Cursor.name" (mj 14 9), o176, o177, tp [], fl [], tp [(s "self" 441), (s "begun" 442), (s "figures" 443)], tp [], f0 "number" "Cursor.number" (mj 14 10), o183, o184, tp [], fl [], tp [(s "self" 450)], tp [], f0 "position" "Cursor.position" (mj 14 11), o190, o191, tp [], fl [], tp [(s "self" 457), (s "offset" 458)], tp [], f0 "position_at" "Cursor.position_at" (mj 14 12), o197, o198, tp [], fl [], tp [(s "self" 465), (s "signs" 466), (s "most" 467), (s "base" 468), (s "code" 469), (s "taken" 470)], tp [], f0 "coded" "Cursor.coded" (mj 14 13), o204, o205, tp [], fl [], tp [(s "self" 477), (s "sign" 478)], tp [], f0 "escape" "Cursor.escape" (mj 14 14), o211, o212, tp [], fl [], tp [(s "self" 485), (s "end" 486), (s "signs" 487), (s "sign" 488)], tp [], f0 "quoted" "Cursor.quoted" (mj 14 15), o218, o219, tp [(s "at" 492), (s "text" 493)], o221 P, o222, ⟨(T "getset_descriptor"), none, (.fields #[(s "__dict__" 495), (r 222), (B "function.__dict__"), (B "function.__dict__#set")]), #[]⟩, ⟨(T "getset_descriptor"), none, (.fields #[(s "__weakref__" 497), (r 222), (B "ExceptionGroup.__weakref__"), N]), #[]⟩, ⟨(T "super"), none, (.fields #[(r 222), (r 222), (r 222)]), #[]⟩, ⟨(T "builtin_function_or_method"), none, (.fields #[(B "object.__init_subclass__"), (r 222)]), #[]⟩]
noncomputable def S6 (w : World) (os : OsState) : SharedT := ⟨t6 w.params, 227, {}, #[], {}, 502, os⟩
noncomputable def o232 : Obj := cq "hex_escape" 502 "hex_escape" 503 504 141 1 0 0 3 (r 227) true (r 228) (r 229) (r 230) (r 231) 507 141 508
noncomputable def o233 : Obj := f1 "hex_escape" "hex_escape" (mi 15) "grammarmill.source" 194 232
noncomputable def o239 : Obj := cq "escaped_sign" 510 "escaped_sign" 511 512 144 2 0 0 3 (r 234) true (r 235) (r 236) (r 237) (r 238) 516 144 517
noncomputable def o240 : Obj := f1 "escaped_sign" "escaped_sign" (mi 16) "grammarmill.source" 194 239
noncomputable def t7 (P : Params) : BT := addL (updL (t6 P) [(3, dc ((e P "__name__" 165 (s "grammarmill.charset" 519)) :: ((es3 P).drop 1).take 27) 28), (12, fl (vs12.take 24))]) 227 [tp [], fl [], tp [(s "code" 505), (s "figures" 506)], tp [], f0 "hex_escape" "hex_escape" (mi 15), o232, o233, tp [], fl [], tp [(s "sign" 513), (s "marks" 514), (s "code" 515)], tp [], f0 "escaped_sign" "escaped_sign" (mi 16), o239, o240]
noncomputable def S7 (w : World) (os : OsState) : SharedT := ⟨t7 w.params, 241, {}, #[], {}, 527, os⟩
noncomputable def o241 (P : Params) : Obj := ⟨(T "dict"), none, (.dict #[e P "alpha" 527 (r 244), e P "digit" 532 (r 246), e P "alnum" 535 (r 250), e P "upper" 542 (r 252), e P "lower" 545 (r 254), e P "space" 548 (r 257), e P "blank" 553 (r 260), e P "punct" 558 (r 265), e P "xdigit" 567 (r 269), e P "cntrl" 574 (r 272), e P "print" 579 (r 274), e P "graph" 582 (r 276)] 12), #[]⟩
noncomputable def o242 : Obj := tp [(j 65 528), (j 90 529)]
noncomputable def o243 : Obj := tp [(j 97 530), (j 122 531)]
noncomputable def o244 : Obj := tp [(r 242), (r 243)]
noncomputable def o245 : Obj := tp [(j 48 533), (j 57 534)]
noncomputable def o246 : Obj := tp [(r 245)]
noncomputable def o247 : Obj := tp [(j 48 536), (j 57 537)]
noncomputable def o248 : Obj := tp [(j 65 538), (j 90 539)]
noncomputable def o249 : Obj := tp [(j 97 540), (j 122 541)]
noncomputable def o250 : Obj := tp [(r 247), (r 248), (r 249)]
noncomputable def o251 : Obj := tp [(j 65 543), (j 90 544)]
noncomputable def o252 : Obj := tp [(r 251)]
noncomputable def o253 : Obj := tp [(j 97 546), (j 122 547)]
noncomputable def o254 : Obj := tp [(r 253)]
noncomputable def o255 : Obj := tp [(j 9 549), (j 13 550)]
noncomputable def o256 : Obj := tp [(j 32 551), (j 32 552)]
noncomputable def o257 : Obj := tp [(r 255), (r 256)]
noncomputable def o258 : Obj := tp [(j 9 554), (j 9 555)]
noncomputable def o259 : Obj := tp [(j 32 556), (j 32 557)]
noncomputable def o260 : Obj := tp [(r 258), (r 259)]
noncomputable def o261 : Obj := tp [(j 33 559), (j 47 560)]
noncomputable def o262 : Obj := tp [(j 58 561), (j 64 562)]
noncomputable def o263 : Obj := tp [(j 91 563), (j 96 564)]
noncomputable def o264 : Obj := tp [(j 123 565), (j 126 566)]
noncomputable def o265 : Obj := tp [(r 261), (r 262), (r 263), (r 264)]
noncomputable def o266 : Obj := tp [(j 48 568), (j 57 569)]
noncomputable def o267 : Obj := tp [(j 65 570), (j 70 571)]
noncomputable def o268 : Obj := tp [(j 97 572), (j 102 573)]
noncomputable def o269 : Obj := tp [(r 266), (r 267), (r 268)]
noncomputable def o270 : Obj := tp [(j 0 575), (j 31 576)]
noncomputable def o271 : Obj := tp [(j 127 577), (j 127 578)]
noncomputable def o272 : Obj := tp [(r 270), (r 271)]
noncomputable def o273 : Obj := tp [(j 32 580), (j 126 581)]
noncomputable def o274 : Obj := tp [(r 273)]
noncomputable def o275 : Obj := tp [(j 33 583), (j 126 584)]
noncomputable def o276 : Obj := tp [(r 275)]
noncomputable def t8 (P : Params) : BT := addL (updL (t7 P) [(3, dc ((e P "__name__" 165 (s "grammarmill.charset" 519)) :: ((es3 P).drop 1).take 28) 29)]) 241 [o241 P, o242, o243, o244, o245, o246, o247, o248, o249, o250, o251, o252, o253, o254, o255, o256, o257, o258, o259, o260, o261, o262, o263, o264, o265, o266, o267, o268, o269, o270, o271, o272, o273, o274, o275, o276]
noncomputable def S8 (w : World) (os : OsState) : SharedT := ⟨t8 w.params, 277, {}, #[], {}, 598, os⟩
noncomputable def o279 (P : Params) : Obj := ⟨(T "dict"), none, (.dict #[e P "__module__" 605 (s "grammarmill.charset" 519), e P "__qualname__" 607 (s "CharSet" 606), e P "__firstlineno__" 609 (j 160 608), e P "__init__" 617 (r 290), e P "none" 635 (r 299), e P "every" 653 (r 309), e P "dot" 671 (r 319), e P "of" 689 (r 327), e P "span" 709 (r 337), e P "made" 734 (r 347), e P "has" 747 (r 355), e P "size" 757 (r 362), e P "codes" 767 (r 369), e P "least" 774 (r 376), e P "is_empty" 781 (r 383), e P "union" 789 (r 390), e P "meet" 797 (r 397), e P "complement" 808 (r 404), e P "minus" 816 (r 411), e P "same" 824 (r 418), e P "meets" 832 (r 425), e P "folded" 839 (r 432), e P "key" 846 (r 439), e P "__static_attributes__" 848 (r 440)] 24), #[]⟩
noncomputable def o282 : Obj := cq "CharSet" 600 "CharSet" 601 602 160 0 0 0 0 (r 280) false (r 281) N N N 603 160 604
noncomputable def o289 : Obj := cq "__init__" 610 "CharSet.__init__" 611 612 162 2 0 0 3 (r 284) true (r 285) (r 286) (r 287) (r 288) 615 162 616
noncomputable def o290 : Obj := f1 "__init__" "CharSet.__init__" (mj 22 0) "grammarmill.charset" 519 289
noncomputable def o296 : Obj := cq "none" 618 "CharSet.none" 619 620 165 0 0 0 3 (r 291) true (r 292) (r 293) (r 294) (r 295) 621 165 622
noncomputable def o297 : Obj := ⟨(T "function"), none, (.func (fd "none" "CharSet.none" (mj 22 1) 3 N N N (s "grammarmill.charset" 519) (r 296) N 0 (some 300))), #[]⟩
noncomputable def o298 (P : Params) : Obj := ⟨(T "dict"), none, (.dict #[e P "__module__" 624 (s "grammarmill.charset" 519), e P "__name__" 627 (s "none" 626), e P "__qualname__" 630 (s "CharSet.none" 629), e P "__doc__" 632 N, e P "__annotations__" 634 (r 300)] 5), #[]⟩
noncomputable def o299 : Obj := ⟨(T "staticmethod"), (some 298), (.fields #[(r 297), (.bool false)]), #[]⟩
noncomputable def o300 : Obj := ⟨(T "dict"), none, (.dict #[] 0), #[]⟩
noncomputable def o306 : Obj := cq "every" 636 "CharSet.every" 637 638 169 0 0 0 3 (r 301) true (r 302) (r 303) (r 304) (r 305) 639 169 640
noncomputable def o307 : Obj := ⟨(T "function"), none, (.func (fd "every" "CharSet.every" (mj 22 2) 3 N N N (s "grammarmill.charset" 519) (r 306) N 0 (some 310))), #[]⟩
noncomputable def o308 (P : Params) : Obj := ⟨(T "dict"), none, (.dict #[e P "__module__" 642 (s "grammarmill.charset" 519), e P "__name__" 645 (s "every" 644), e P "__qualname__" 648 (s "CharSet.every" 647), e P "__doc__" 650 N, e P "__annotations__" 652 (r 310)] 5), #[]⟩
noncomputable def o309 : Obj := ⟨(T "staticmethod"), (some 308), (.fields #[(r 307), (.bool false)]), #[]⟩
noncomputable def o310 : Obj := ⟨(T "dict"), none, (.dict #[] 0), #[]⟩
noncomputable def o316 : Obj := cq "dot" 654 "CharSet.dot" 655 656 173 0 0 0 3 (r 311) true (r 312) (r 313) (r 314) (r 315) 657 173 658
noncomputable def o317 : Obj := ⟨(T "function"), none, (.func (fd "dot" "CharSet.dot" (mj 22 3) 3 N N N (s "grammarmill.charset" 519) (r 316) N 0 (some 320))), #[]⟩
noncomputable def o318 (P : Params) : Obj := ⟨(T "dict"), none, (.dict #[e P "__module__" 660 (s "grammarmill.charset" 519), e P "__name__" 663 (s "dot" 662), e P "__qualname__" 666 (s "CharSet.dot" 665), e P "__doc__" 668 N, e P "__annotations__" 670 (r 320)] 5), #[]⟩
noncomputable def o319 : Obj := ⟨(T "staticmethod"), (some 318), (.fields #[(r 317), (.bool false)]), #[]⟩
noncomputable def o320 : Obj := ⟨(T "dict"), none, (.dict #[] 0), #[]⟩
noncomputable def o324 : Obj := cq "of" 672 "CharSet.of" 673 674 177 1 0 0 3 (r 321) true (r 322) N N (r 323) 675 177 676
noncomputable def o325 : Obj := ⟨(T "function"), none, (.func (fd "of" "CharSet.of" (mj 22 4) 3 N N N (s "grammarmill.charset" 519) (r 324) N 0 (some 328))), #[]⟩
noncomputable def o326 (P : Params) : Obj := ⟨(T "dict"), none, (.dict #[e P "__module__" 678 (s "grammarmill.charset" 519), e P "__name__" 681 (s "of" 680), e P "__qualname__" 684 (s "CharSet.of" 683), e P "__doc__" 686 N, e P "__annotations__" 688 (r 328)] 5), #[]⟩
noncomputable def o327 : Obj := ⟨(T "staticmethod"), (some 326), (.fields #[(r 325), (.bool false)]), #[]⟩
noncomputable def o328 : Obj := ⟨(T "dict"), none, (.dict #[] 0), #[]⟩
noncomputable def o334 : Obj := cq "span" 690 "CharSet.span" 691 692 181 2 0 0 3 (r 329) true (r 330) (r 331) (r 332) (r 333) 695 181 696
noncomputable def o335 : Obj := ⟨(T "function"), none, (.func (fd "span" "CharSet.span" (mj 22 5) 3 N N N (s "grammarmill.charset" 519) (r 334) N 0 (some 338))), #[]⟩
noncomputable def o336 (P : Params) : Obj := ⟨(T "dict"), none, (.dict #[e P "__module__" 698 (s "grammarmill.charset" 519), e P "__name__" 701 (s "span" 700), e P "__qualname__" 704 (s "CharSet.span" 703), e P "__doc__" 706 N, e P "__annotations__" 708 (r 338)] 5), #[]⟩
noncomputable def o337 : Obj := ⟨(T "staticmethod"), (some 336), (.fields #[(r 335), (.bool false)]), #[]⟩
noncomputable def o338 : Obj := ⟨(T "dict"), none, (.dict #[] 0), #[]⟩
noncomputable def o344 : Obj := cq "made" 710 "CharSet.made" 711 712 185 1 0 0 3 (r 339) true (r 340) (r 341) (r 342) (r 343) 720 185 721
noncomputable def o345 : Obj := ⟨(T "function"), none, (.func (fd "made" "CharSet.made" (mj 22 6) 3 N N N (s "grammarmill.charset" 519) (r 344) N 0 (some 348))), #[]⟩
noncomputable def o346 (P : Params) : Obj := ⟨(T "dict"), none, (.dict #[e P "__module__" 723 (s "grammarmill.charset" 519), e P "__name__" 726 (s "made" 725), e P "__qualname__" 729 (s "CharSet.made" 728), e P "__doc__" 731 N, e P "__annotations__" 733 (r 348)] 5), #[]⟩
noncomputable def o347 : Obj := ⟨(T "staticmethod"), (some 346), (.fields #[(r 345), (.bool false)]), #[]⟩
noncomputable def o348 : Obj := ⟨(T "dict"), none, (.dict #[] 0), #[]⟩
noncomputable def o354 : Obj := cq "has" 735 "CharSet.has" 736 737 202 2 0 0 3 (r 349) true (r 350) (r 351) (r 352) (r 353) 745 202 746
noncomputable def o355 : Obj := f1 "has" "CharSet.has" (mj 22 7) "grammarmill.charset" 519 354
noncomputable def o361 : Obj := cq "size" 748 "CharSet.size" 749 750 216 1 0 0 3 (r 356) true (r 357) (r 358) (r 359) (r 360) 755 216 756
noncomputable def o362 : Obj := f1 "size" "CharSet.size" (mj 22 8) "grammarmill.charset" 519 361
noncomputable def o368 : Obj := cq "codes" 758 "CharSet.codes" 759 760 222 1 0 0 3 (r 363) true (r 364) (r 365) (r 366) (r 367) 765 222 766
noncomputable def o369 : Obj := f1 "codes" "CharSet.codes" (mj 22 9) "grammarmill.charset" 519 368
noncomputable def o375 : Obj := cq "least" 768 "CharSet.least" 769 770 228 1 0 0 3 (r 370) true (r 371) (r 372) (r 373) (r 374) 772 228 773
noncomputable def o376 : Obj := f1 "least" "CharSet.least" (mj 22 10) "grammarmill.charset" 519 375
noncomputable def o382 : Obj := cq "is_empty" 775 "CharSet.is_empty" 776 777 233 1 0 0 3 (r 377) true (r 378) (r 379) (r 380) (r 381) 779 233 780
noncomputable def o383 : Obj := f1 "is_empty" "CharSet.is_empty" (mj 22 11) "grammarmill.charset" 519 382
noncomputable def o389 : Obj := cq "union" 782 "CharSet.union" 783 784 236 2 0 0 3 (r 384) true (r 385) (r 386) (r 387) (r 388) 787 236 788
noncomputable def o390 : Obj := f1 "union" "CharSet.union" (mj 22 12) "grammarmill.charset" 519 389
noncomputable def o396 : Obj := cq "meet" 790 "CharSet.meet" 791 792 239 2 0 0 3 (r 391) true (r 392) (r 393) (r 394) (r 395) 795 239 796
noncomputable def o397 : Obj := f1 "meet" "CharSet.meet" (mj 22 13) "grammarmill.charset" 519 396
noncomputable def o403 : Obj := cq "complement" 798 "CharSet.complement" 799 800 242 1 0 0 3 (r 398) true (r 399) (r 400) (r 401) (r 402) 806 242 807
noncomputable def o404 : Obj := f1 "complement" "CharSet.complement" (mj 22 14) "grammarmill.charset" 519 403
noncomputable def o410 : Obj := cq "minus" 809 "CharSet.minus" 810 811 253 2 0 0 3 (r 405) true (r 406) (r 407) (r 408) (r 409) 814 253 815
noncomputable def o411 : Obj := f1 "minus" "CharSet.minus" (mj 22 15) "grammarmill.charset" 519 410
noncomputable def o417 : Obj := cq "same" 817 "CharSet.same" 818 819 256 2 0 0 3 (r 412) true (r 413) (r 414) (r 415) (r 416) 822 256 823
noncomputable def o418 : Obj := f1 "same" "CharSet.same" (mj 22 16) "grammarmill.charset" 519 417
noncomputable def o424 : Obj := cq "meets" 825 "CharSet.meets" 826 827 259 2 0 0 3 (r 419) true (r 420) (r 421) (r 422) (r 423) 830 259 831
noncomputable def o425 : Obj := f1 "meets" "CharSet.meets" (mj 22 17) "grammarmill.charset" 519 424
noncomputable def o431 : Obj := cq "folded" 833 "CharSet.folded" 834 835 262 1 0 0 3 (r 426) true (r 427) (r 428) (r 429) (r 430) 837 262 838
noncomputable def o432 : Obj := f1 "folded" "CharSet.folded" (mj 22 18) "grammarmill.charset" 519 431
noncomputable def o438 : Obj := cq "key" 840 "CharSet.key" 841 842 265 1 0 0 3 (r 433) true (r 434) (r 435) (r 436) (r 437) 844 265 845
noncomputable def o439 : Obj := f1 "key" "CharSet.key" (mj 22 19) "grammarmill.charset" 519 438
noncomputable def o441 (P : Params) : Obj := ⟨(T "dict"), none, (.dict #[e P "__module__" 605 (s "grammarmill.charset" 519), e P "__firstlineno__" 609 (j 160 608), e P "__init__" 617 (r 290), e P "none" 635 (r 299), e P "every" 653 (r 309), e P "dot" 671 (r 319), e P "of" 689 (r 327), e P "span" 709 (r 337), e P "made" 734 (r 347), e P "has" 747 (r 355), e P "size" 757 (r 362), e P "codes" 767 (r 369), e P "least" 774 (r 376), e P "is_empty" 781 (r 383), e P "union" 789 (r 390), e P "meet" 797 (r 397), e P "complement" 808 (r 404), e P "minus" 816 (r 411), e P "same" 824 (r 418), e P "meets" 832 (r 425), e P "folded" 839 (r 432), e P "key" 846 (r 439), e P "__static_attributes__" 848 (r 440), e P "__dict__" 850 (r 443), e P "__weakref__" 852 (r 444), e P "__doc__" 853 N] 4), #[]⟩
noncomputable def o442 : Obj := ⟨(T "type"), none, (.cls ⟨S "CharSet", [(T "object")], [(r 442), (T "object")], 441, S "CharSet", true, [], [], false, none, false⟩), #[none, none, (some (s "CharSet" 598)), (some (s "CharSet" 606)), (some (B "object.__new__")), (some (.bool true))]⟩
noncomputable def t9 (P : Params) : BT := addL (updL (t8 P) [(3, dc ((e P "__name__" 165 (s "grammarmill.charset" 519)) :: ((es3 P).drop 1).take 29) 30), (12, fl (vs12.take 27))]) 277 [tp [], ⟨(T "builtin_function_or_method"), none, (.fields #[(B "type.__prepare__"), (T "type")]), #[]⟩, o279 P, tp [], fl [(i 162), (i 4), (r 289), (i 166), (i 4), (r 296), (i 170), (i 4), (r 306), (i 174), (i 4), (r 316), (i 178), (i 4), (r 324), (i 182), (i 4), (r 334), (i 186), (i 4), (r 344), (i 202), (i 4), (r 354), (i 216), (i 4), (r 361), (i 222), (i 4), (r 368), (i 228), (i 4), (r 375), (i 233), (i 4), (r 382), (i 236), (i 4), (r 389), (i 239), (i 4), (r 396), (i 242), (i 4), (r 403), (i 253), (i 4), (r 410), (i 256), (i 4), (r 417), (i 259), (i 4), (r 424), (i 262), (i 4), (r 431), (i 265), (i 4), (r 438)], o282, ⟨(T "frame"), none, .plain, #[(some (r 282)), (some (r 3)), (some (r 279)), none, (some (s "grammarmill.charset" 519)), none, (some (r 0))]⟩, tp [], fl [], tp [(s "self" 613), (s "spans" 614)], tp [], f0 "__init__" "CharSet.__init__" (mj 22 0), o289, o290, tp [], fl [], tp [], tp [], f0 "none" "CharSet.none" (mj 22 1), o296, o297, o298 P, o299, o300, tp [], fl [], tp [], tp [], f0 "every" "CharSet.every" (mj 22 2), o306, o307, o308 P, o309, o310, tp [], fl [], tp [], tp [], f0 "dot" "CharSet.dot" (mj 22 3), o316, o317, o318 P, o319, o320, tp [], fl [], f0 "of" "CharSet.of" (mj 22 4), o324, o325, o326 P, o327, o328, tp [], fl [], tp [(s "low" 693), (s "high" 694)], tp [], f0 "span" "CharSet.span" (mj 22 5), o334, o335, o336 P, o337, o338, tp [], fl [], tp [(s "pairs" 713), (s "kept" 714), (s "first" 715), (s "last" 716), (s "low" 717), (s "high" 718), (s "spans" 719)], tp [], f0 "made" "CharSet.made" (mj 22 6), o344, o345, o346 P, o347, o348, tp [], fl [], tp [(s "self" 738), (s "code" 739), (s "left" 740), (s "right" 741), (s "middle" 742), (s "low" 743), (s "high" 744)], tp [], f0 "has" "CharSet.has" (mj 22 7), o354, o355, tp [], fl [], tp [(s "self" 751), (s "total" 752), (s "low" 753), (s "high" 754)], tp [], f0 "size" "CharSet.size" (mj 22 8), o361, o362, tp [], fl [], tp [(s "self" 761), (s "found" 762), (s "low" 763), (s "high" 764)], tp [], f0 "codes" "CharSet.codes" (mj 22 9), o368, o369, tp [], fl [], tp [(s "self" 771)], tp [], f0 "least" "CharSet.least" (mj 22 10), o375, o376, tp [], fl [], tp [(s "self" 778)], tp [], f0 "is_empty" "CharSet.is_empty" (mj 22 11), o382, o383, tp [], fl [], tp [(s "self" 785), (s "other" 786)], tp [], f0 "union" "CharSet.union" (mj 22 12), o389, o390, tp [], fl [], tp [(s "self" 793), (s "other" 794)], tp [], f0 "meet" "CharSet.meet" (mj 22 13), o396, o397, tp [], fl [], tp [(s "self" 801), (s "spans" 802), (s "begin" 803), (s "low" 804), (s "high" 805)], tp [], f0 "complement" "CharSet.complement" (mj 22 14), o403, o404, tp [], fl [], tp [(s "self" 812), (s "other" 813)], tp [], f0 "minus" "CharSet.minus" (mj 22 15), o410, o411, tp [], fl [], tp [(s "self" 820), (s "other" 821)], tp [], f0 "same" "CharSet.same" (mj 22 16), o417, o418, tp [], fl [], tp [(s "self" 828), (s "other" 829)], tp [], f0 "meets" "CharSet.meets" (mj 22 17), o424, o425, tp [], fl [], tp [(s "self" 836)], tp [], f0 "folded" "CharSet.folded" (mj 22 18), o431, o432, tp [], fl [], tp [(s "self" 843)], tp [], f0 "key" "CharSet.key" (mj 22 19), o438, o439, tp [(s "spans" 847)], o441 P, o442, ⟨(T "getset_descriptor"), none, (.fields #[(s "__dict__" 849), (r 442), (B "function.__dict__"), (B "function.__dict__#set")]), #[]⟩, ⟨(T "getset_descriptor"), none, (.fields #[(s "__weakref__" 851), (r 442), (B "ExceptionGroup.__weakref__"), N]), #[]⟩, ⟨(T "super"), none, (.fields #[(r 442), (r 442), (r 442)]), #[]⟩, ⟨(T "builtin_function_or_method"), none, (.fields #[(B "object.__init_subclass__"), (r 442)]), #[]⟩]
noncomputable def S9 (w : World) (os : OsState) : SharedT := ⟨t9 w.params, 447, {}, #[], {}, 856, os⟩
noncomputable def o452 : Obj := cq "show_code" 856 "show_code" 857 858 267 1 0 0 3 (r 447) true (r 448) (r 449) (r 450) (r 451) 861 267 862
noncomputable def o453 : Obj := f1 "show_code" "show_code" (mi 23) "grammarmill.charset" 519 452
noncomputable def o459 : Obj := cq "told" 864 "told" 865 866 274 1 0 0 3 (r 454) true (r 455) (r 456) (r 457) (r 458) 871 274 872
noncomputable def o460 : Obj := f1 "told" "told" (mi 24) "grammarmill.charset" 519 459
noncomputable def o466 : Obj := cq "named_class" 874 "named_class" 875 876 285 1 0 0 3 (r 461) true (r 462) (r 463) (r 464) (r 465) 879 285 880
noncomputable def o467 : Obj := f1 "named_class" "named_class" (mi 25) "grammarmill.charset" 519 466
noncomputable def o470 (P : Params) : Obj := ⟨(T "dict"), none, (.dict #[e P "__module__" 901 (s "grammarmill.regex" 882), e P "__qualname__" 903 (s "Node" 902), e P "__firstlineno__" 905 (j 296 904), e P "name" 907 (s "node" 906), e P "parts" 914 (r 481), e P "told" 921 (r 488), e P "__static_attributes__" 922 (r 489)] 7), #[]⟩
noncomputable def o473 : Obj := cq "Node" 896 "Node" 897 898 296 0 0 0 0 (r 471) false (r 472) N N N 899 296 900
noncomputable def o480 : Obj := cq "parts" 908 "Node.parts" 909 910 299 1 0 0 3 (r 475) true (r 476) (r 477) (r 478) (r 479) 912 299 913
noncomputable def o481 : Obj := f1 "parts" "Node.parts" (mj 32 1) "grammarmill.regex" 882 480
noncomputable def o487 : Obj := cq "told" 915 "Node.told" 916 917 302 1 0 0 3 (r 482) true (r 483) (r 484) (r 485) (r 486) 919 302 920
noncomputable def o488 : Obj := f1 "told" "Node.told" (mj 32 2) "grammarmill.regex" 882 487
noncomputable def o490 (P : Params) : Obj := ⟨(T "dict"), none, (.dict #[e P "__module__" 901 (s "grammarmill.regex" 882), e P "__firstlineno__" 905 (j 296 904), e P "name" 907 (s "node" 906), e P "parts" 914 (r 481), e P "told" 921 (r 488), e P "__static_attributes__" 922 (r 489), e P "__dict__" 924 (r 492), e P "__weakref__" 926 (r 493), e P "__doc__" 927 N] 4), #[]⟩
noncomputable def t10 (P : Params) : BT := addL (updL (t9 P) [(3, dc ((e P "__name__" 165 (s "grammarmill.regex" 882)) :: ((es3 P).drop 1).take 38) 39), (12, fl (vs12.take 39))]) 447 [tp [], fl [], tp [(s "code" 859), (s "sign" 860)], tp [], f0 "show_code" "show_code" (mi 23), o452, o453, tp [], fl [], tp [(s "charset" 867), (s "parts" 868), (s "low" 869), (s "high" 870)], tp [], f0 "told" "told" (mi 24), o459, o460, tp [], fl [], tp [(s "name" 877), (s "spans" 878)], tp [], f0 "named_class" "named_class" (mi 25), o466, o467, tp [], ⟨(T "builtin_function_or_method"), none, (.fields #[(B "type.__prepare__"), (T "type")]), #[]⟩, o470 P, tp [], fl [(i 299), (i 4), (r 480), (i 302), (i 4), (r 487)], o473, ⟨(T "frame"), none, .plain, #[(some (r 473)), (some (r 3)), (some (r 470)), none, (some (s "grammarmill.regex" 882)), none, (some (r 0))]⟩, tp [], fl [], tp [(s "self" 911)], tp [], f0 "parts" "Node.parts" (mj 32 1), o480, o481, tp [], fl [], tp [(s "self" 918)], tp [], f0 "told" "Node.told" (mj 32 2), o487, o488, tp [], o490 P, ⟨(T "type"), none, (.cls ⟨S "Node", [(T "object")], [(r 491), (T "object")], 490, S "Node", true, [], [], false, none, false⟩), #[none, none, (some (s "Node" 894)), (some (s "Node" 902)), (some (B "object.__new__")), (some (.bool true))]⟩, ⟨(T "getset_descriptor"), none, (.fields #[(s "__dict__" 923), (r 491), (B "function.__dict__"), (B "function.__dict__#set")]), #[]⟩, ⟨(T "getset_descriptor"), none, (.fields #[(s "__weakref__" 925), (r 491), (B "ExceptionGroup.__weakref__"), N]), #[]⟩, ⟨(T "super"), none, (.fields #[(r 491), (r 491), (r 491)]), #[]⟩, ⟨(T "builtin_function_or_method"), none, (.fields #[(B "object.__init_subclass__"), (r 491)]), #[]⟩]
noncomputable def S10 (w : World) (os : OsState) : SharedT := ⟨t10 w.params, 496, {}, #[], {}, 930, os⟩
noncomputable def o498 (P : Params) : Obj := ⟨(T "dict"), none, (.dict #[e P "__module__" 937 (s "grammarmill.regex" 882), e P "__qualname__" 939 (s "Empty" 938), e P "__firstlineno__" 941 (j 304 940), e P "name" 943 (s "empty" 942), e P "__static_attributes__" 944 (r 503)] 5), #[]⟩
noncomputable def o501 : Obj := cq "Empty" 932 "Empty" 933 934 304 0 0 0 0 (r 499) false (r 500) N N N 935 304 936
noncomputable def o504 (P : Params) : Obj := ⟨(T "dict"), none, (.dict #[e P "__module__" 937 (s "grammarmill.regex" 882), e P "__firstlineno__" 941 (j 304 940), e P "name" 943 (s "empty" 942), e P "__static_attributes__" 944 (r 503), e P "__doc__" 945 N] 2), #[]⟩
noncomputable def o505 : Obj := ⟨(T "type"), none, (.cls ⟨S "Empty", [(r 491)], [(r 505), (r 491), (T "object")], 504, S "Empty", true, [], [], false, none, false⟩), #[(some (r 496)), none, (some (s "Empty" 930)), (some (s "Empty" 938)), (some (B "object.__new__")), (some (.bool true))]⟩
noncomputable def o510 (P : Params) : Obj := ⟨(T "dict"), none, (.dict #[e P "__module__" 955 (s "grammarmill.regex" 882), e P "__qualname__" 957 (s "Never" 956), e P "__firstlineno__" 959 (j 306 958), e P "name" 961 (s "never" 960), e P "__static_attributes__" 962 (r 515)] 5), #[]⟩
noncomputable def o513 : Obj := cq "Never" 950 "Never" 951 952 306 0 0 0 0 (r 511) false (r 512) N N N 953 306 954
noncomputable def o516 (P : Params) : Obj := ⟨(T "dict"), none, (.dict #[e P "__module__" 955 (s "grammarmill.regex" 882), e P "__firstlineno__" 959 (j 306 958), e P "name" 961 (s "never" 960), e P "__static_attributes__" 962 (r 515), e P "__doc__" 963 N] 2), #[]⟩
noncomputable def o517 : Obj := ⟨(T "type"), none, (.cls ⟨S "Never", [(r 491)], [(r 517), (r 491), (T "object")], 516, S "Never", true, [], [], false, none, false⟩), #[(some (r 508)), none, (some (s "Never" 948)), (some (s "Never" 956)), (some (B "object.__new__")), (some (.bool true))]⟩
noncomputable def t11 (P : Params) : BT := addL (updL (t10 P) [(3, dc ((e P "__name__" 165 (s "grammarmill.regex" 882)) :: ((es3 P).drop 1).take 40) 41), (12, fl (vs12.take 45)), (491, ⟨(T "type"), none, (.cls ⟨S "Node", [(T "object")], [(r 491), (T "object")], 490, S "Node", true, [], [(r 505), (r 517)], false, none, false⟩), #[none, none, (some (s "Node" 894)), (some (s "Node" 902)), (some (B "object.__new__")), (some (.bool true))]⟩)]) 496 [tp [(r 491)], ⟨(T "builtin_function_or_method"), none, (.fields #[(B "type.__prepare__"), (T "type")]), #[]⟩, o498 P, tp [], fl [], o501, ⟨(T "frame"), none, .plain, #[(some (r 501)), (some (r 3)), (some (r 498)), none, (some (s "grammarmill.regex" 882)), none, (some (r 0))]⟩, tp [], o504 P, o505, ⟨(T "super"), none, (.fields #[(r 505), (r 505), (r 505)]), #[]⟩, ⟨(T "builtin_function_or_method"), none, (.fields #[(B "object.__init_subclass__"), (r 505)]), #[]⟩, tp [(r 491)], ⟨(T "builtin_function_or_method"), none, (.fields #[(B "type.__prepare__"), (T "type")]), #[]⟩, o510 P, tp [], fl [], o513, ⟨(T "frame"), none, .plain, #[(some (r 513)), (some (r 3)), (some (r 510)), none, (some (s "grammarmill.regex" 882)), none, (some (r 0))]⟩, tp [], o516 P, o517, ⟨(T "super"), none, (.fields #[(r 517), (r 517), (r 517)]), #[]⟩, ⟨(T "builtin_function_or_method"), none, (.fields #[(B "object.__init_subclass__"), (r 517)]), #[]⟩]
noncomputable def S11 (w : World) (os : OsState) : SharedT := ⟨t11 w.params, 520, {}, #[], {}, 966, os⟩
noncomputable def o522 (P : Params) : Obj := ⟨(T "dict"), none, (.dict #[e P "__module__" 973 (s "grammarmill.regex" 882), e P "__qualname__" 975 (s "Chars" 974), e P "__firstlineno__" 977 (j 308 976), e P "name" 979 (s "chars" 978), e P "__init__" 987 (r 533), e P "told" 994 (r 540), e P "__static_attributes__" 996 (r 541)] 7), #[]⟩
noncomputable def o525 : Obj := cq "Chars" 968 "Chars" 969 970 308 0 0 0 0 (r 523) false (r 524) N N N 971 308 972
noncomputable def o532 : Obj := cq "__init__" 980 "Chars.__init__" 981 982 311 2 0 0 3 (r 527) true (r 528) (r 529) (r 530) (r 531) 985 311 986
noncomputable def o533 : Obj := f1 "__init__" "Chars.__init__" (mj 35 1) "grammarmill.regex" 882 532
noncomputable def o539 : Obj := cq "told" 988 "Chars.told" 989 990 314 1 0 0 3 (r 534) true (r 535) (r 536) (r 537) (r 538) 992 314 993
noncomputable def o540 : Obj := f1 "told" "Chars.told" (mj 35 2) "grammarmill.regex" 882 539
noncomputable def o542 (P : Params) : Obj := ⟨(T "dict"), none, (.dict #[e P "__module__" 973 (s "grammarmill.regex" 882), e P "__firstlineno__" 977 (j 308 976), e P "name" 979 (s "chars" 978), e P "__init__" 987 (r 533), e P "told" 994 (r 540), e P "__static_attributes__" 996 (r 541), e P "__doc__" 997 N] 2), #[]⟩
noncomputable def o543 : Obj := ⟨(T "type"), none, (.cls ⟨S "Chars", [(r 491)], [(r 543), (r 491), (T "object")], 542, S "Chars", true, [], [], false, none, false⟩), #[(some (r 520)), none, (some (s "Chars" 966)), (some (s "Chars" 974)), (some (B "object.__new__")), (some (.bool true))]⟩
noncomputable def t12 (P : Params) : BT := addL (updL (t11 P) [(3, dc ((e P "__name__" 165 (s "grammarmill.regex" 882)) :: ((es3 P).drop 1).take 41) 42), (12, fl (vs12.take 48)), (491, ⟨(T "type"), none, (.cls ⟨S "Node", [(T "object")], [(r 491), (T "object")], 490, S "Node", true, [], [(r 505), (r 517), (r 543)], false, none, false⟩), #[none, none, (some (s "Node" 894)), (some (s "Node" 902)), (some (B "object.__new__")), (some (.bool true))]⟩)]) 520 [tp [(r 491)], ⟨(T "builtin_function_or_method"), none, (.fields #[(B "type.__prepare__"), (T "type")]), #[]⟩, o522 P, tp [], fl [(i 311), (i 4), (r 532), (i 314), (i 4), (r 539)], o525, ⟨(T "frame"), none, .plain, #[(some (r 525)), (some (r 3)), (some (r 522)), none, (some (s "grammarmill.regex" 882)), none, (some (r 0))]⟩, tp [], fl [], tp [(s "self" 983), (s "charset" 984)], tp [], f0 "__init__" "Chars.__init__" (mj 35 1), o532, o533, tp [], fl [], tp [(s "self" 991)], tp [], f0 "told" "Chars.told" (mj 35 2), o539, o540, tp [(s "charset" 995)], o542 P, o543, ⟨(T "super"), none, (.fields #[(r 543), (r 543), (r 543)]), #[]⟩, ⟨(T "builtin_function_or_method"), none, (.fields #[(B "object.__init_subclass__"), (r 543)]), #[]⟩]
noncomputable def S12 (w : World) (os : OsState) : SharedT := ⟨t12 w.params, 546, {}, #[], {}, 1000, os⟩
noncomputable def o548 (P : Params) : Obj := ⟨(T "dict"), none, (.dict #[e P "__module__" 1007 (s "grammarmill.regex" 882), e P "__qualname__" 1009 (s "Pair" 1008), e P "__firstlineno__" 1011 (j 316 1010), e P "__init__" 1020 (r 559), e P "parts" 1027 (r 566), e P "told" 1037 (r 573), e P "__static_attributes__" 1040 (r 574)] 7), #[]⟩
noncomputable def o551 : Obj := cq "Pair" 1002 "Pair" 1003 1004 316 0 0 0 0 (r 549) false (r 550) N N N 1005 316 1006
noncomputable def o558 : Obj := cq "__init__" 1012 "Pair.__init__" 1013 1014 318 3 0 0 3 (r 553) true (r 554) (r 555) (r 556) (r 557) 1018 318 1019
noncomputable def o559 : Obj := f1 "__init__" "Pair.__init__" (mj 36 0) "grammarmill.regex" 882 558
noncomputable def o565 : Obj := cq "parts" 1021 "Pair.parts" 1022 1023 322 1 0 0 3 (r 560) true (r 561) (r 562) (r 563) (r 564) 1025 322 1026
noncomputable def o566 : Obj := f1 "parts" "Pair.parts" (mj 36 1) "grammarmill.regex" 882 565
noncomputable def o572 : Obj := cq "told" 1028 "Pair.told" 1029 1030 325 1 0 0 3 (r 567) true (r 568) (r 569) (r 570) (r 571) 1035 325 1036
noncomputable def o573 : Obj := f1 "told" "Pair.told" (mj 36 2) "grammarmill.regex" 882 572
noncomputable def o575 (P : Params) : Obj := ⟨(T "dict"), none, (.dict #[e P "__module__" 1007 (s "grammarmill.regex" 882), e P "__firstlineno__" 1011 (j 316 1010), e P "__init__" 1020 (r 559), e P "parts" 1027 (r 566), e P "told" 1037 (r 573), e P "__static_attributes__" 1040 (r 574), e P "__doc__" 1041 N] 2), #[]⟩
noncomputable def t13 (P : Params) : BT := addL (updL (t12 P) [(3, dc ((e P "__name__" 165 (s "grammarmill.regex" 882)) :: ((es3 P).drop 1).take 42) 43), (12, fl (vs12.take 51)), (491, ⟨(T "type"), none, (.cls ⟨S "Node", [(T "object")], [(r 491), (T "object")], 490, S "Node", true, [], [(r 505), (r 517), (r 543), (r 576)], false, none, false⟩), #[none, none, (some (s "Node" 894)), (some (s "Node" 902)), (some (B "object.__new__")), (some (.bool true))]⟩)]) 546 [tp [(r 491)], ⟨(T "builtin_function_or_method"), none, (.fields #[(B "type.__prepare__"), (T "type")]), #[]⟩, o548 P, tp [], fl [(i 318), (i 4), (r 558), (i 322), (i 4), (r 565), (i 325), (i 4), (r 572)], o551, ⟨(T "frame"), none, .plain, #[(some (r 551)), (some (r 3)), (some (r 548)), none, (some (s "grammarmill.regex" 882)), none, (some (r 0))]⟩, tp [], fl [], tp [(s "self" 1015), (s "left" 1016), (s "right" 1017)], tp [], f0 "__init__" "Pair.__init__" (mj 36 0), o558, o559, tp [], fl [], tp [(s "self" 1024)], tp [], f0 "parts" "Pair.parts" (mj 36 1), o565, o566, tp [], fl [], tp [(s "self" 1031), (s "row" 1032), (s "text" 1033), (s "part" 1034)], tp [], f0 "told" "Pair.told" (mj 36 2), o572, o573, tp [(s "left" 1038), (s "right" 1039)], o575 P, ⟨(T "type"), none, (.cls ⟨S "Pair", [(r 491)], [(r 576), (r 491), (T "object")], 575, S "Pair", true, [], [], false, none, false⟩), #[(some (r 546)), none, (some (s "Pair" 1000)), (some (s "Pair" 1008)), (some (B "object.__new__")), (some (.bool true))]⟩, ⟨(T "super"), none, (.fields #[(r 576), (r 576), (r 576)]), #[]⟩, ⟨(T "builtin_function_or_method"), none, (.fields #[(B "object.__init_subclass__"), (r 576)]), #[]⟩]
noncomputable def S13 (w : World) (os : OsState) : SharedT := ⟨t13 w.params, 579, {}, #[], {}, 1044, os⟩
noncomputable def o581 (P : Params) : Obj := ⟨(T "dict"), none, (.dict #[e P "__module__" 1051 (s "grammarmill.regex" 882), e P "__qualname__" 1053 (s "Cat" 1052), e P "__firstlineno__" 1055 (j 331 1054), e P "name" 1057 (s "cat" 1056), e P "__static_attributes__" 1058 (r 586)] 5), #[]⟩
noncomputable def o584 : Obj := cq "Cat" 1046 "Cat" 1047 1048 331 0 0 0 0 (r 582) false (r 583) N N N 1049 331 1050
noncomputable def o587 (P : Params) : Obj := ⟨(T "dict"), none, (.dict #[e P "__module__" 1051 (s "grammarmill.regex" 882), e P "__firstlineno__" 1055 (j 331 1054), e P "name" 1057 (s "cat" 1056), e P "__static_attributes__" 1058 (r 586), e P "__doc__" 1059 N] 2), #[]⟩
noncomputable def o588 : Obj := ⟨(T "type"), none, (.cls ⟨S "Cat", [(r 576)], [(r 588), (r 576), (r 491), (T "object")], 587, S "Cat", true, [], [], false, none, false⟩), #[(some (r 579)), none, (some (s "Cat" 1044)), (some (s "Cat" 1052)), (some (B "object.__new__")), (some (.bool true))]⟩
noncomputable def t14 (P : Params) : BT := addL (updL (t13 P) [(3, dc ((e P "__name__" 165 (s "grammarmill.regex" 882)) :: ((es3 P).drop 1).take 43) 44), (12, fl (vs12.take 54)), (576, ⟨(T "type"), none, (.cls ⟨S "Pair", [(r 491)], [(r 576), (r 491), (T "object")], 575, S "Pair", true, [], [(r 588)], false, none, false⟩), #[(some (r 546)), none, (some (s "Pair" 1000)), (some (s "Pair" 1008)), (some (B "object.__new__")), (some (.bool true))]⟩)]) 579 [tp [(r 576)], ⟨(T "builtin_function_or_method"), none, (.fields #[(B "type.__prepare__"), (T "type")]), #[]⟩, o581 P, tp [], fl [], o584, ⟨(T "frame"), none, .plain, #[(some (r 584)), (some (r 3)), (some (r 581)), none, (some (s "grammarmill.regex" 882)), none, (some (r 0))]⟩, tp [], o587 P, o588, ⟨(T "super"), none, (.fields #[(r 588), (r 588), (r 588)]), #[]⟩, ⟨(T "builtin_function_or_method"), none, (.fields #[(B "object.__init_subclass__"), (r 588)]), #[]⟩]
noncomputable def S14 (w : World) (os : OsState) : SharedT := ⟨t14 w.params, 591, {}, #[], {}, 1062, os⟩
noncomputable def o576_15 : Obj := ⟨(T "type"), none, (.cls ⟨S "Pair", [(r 491)], [(r 576), (r 491), (T "object")], 575, S "Pair", true, [], [(r 588), (r 600)], false, none, false⟩), #[(some (r 546)), none, (some (s "Pair" 1000)), (some (s "Pair" 1008)), (some (B "object.__new__")), (some (.bool true))]⟩
noncomputable def o593 (P : Params) : Obj := ⟨(T "dict"), none, (.dict #[e P "__module__" 1069 (s "grammarmill.regex" 882), e P "__qualname__" 1071 (s "Alt" 1070), e P "__firstlineno__" 1073 (j 333 1072), e P "name" 1075 (s "alt" 1074), e P "__static_attributes__" 1076 (r 598)] 5), #[]⟩
noncomputable def o596 : Obj := cq "Alt" 1064 "Alt" 1065 1066 333 0 0 0 0 (r 594) false (r 595) N N N 1067 333 1068
noncomputable def o599 (P : Params) : Obj := ⟨(T "dict"), none, (.dict #[e P "__module__" 1069 (s "grammarmill.regex" 882), e P "__firstlineno__" 1073 (j 333 1072), e P "name" 1075 (s "alt" 1074), e P "__static_attributes__" 1076 (r 598), e P "__doc__" 1077 N] 2), #[]⟩
noncomputable def o600 : Obj := ⟨(T "type"), none, (.cls ⟨S "Alt", [(r 576)], [(r 600), (r 576), (r 491), (T "object")], 599, S "Alt", true, [], [], false, none, false⟩), #[(some (r 591)), none, (some (s "Alt" 1062)), (some (s "Alt" 1070)), (some (B "object.__new__")), (some (.bool true))]⟩
noncomputable def t15 (P : Params) : BT := addL (updL (t14 P) [(3, dc ((e P "__name__" 165 (s "grammarmill.regex" 882)) :: ((es3 P).drop 1).take 44) 45), (12, fl (vs12.take 57)), (576, o576_15)]) 591 [tp [(r 576)], ⟨(T "builtin_function_or_method"), none, (.fields #[(B "type.__prepare__"), (T "type")]), #[]⟩, o593 P, tp [], fl [], o596, ⟨(T "frame"), none, .plain, #[(some (r 596)), (some (r 3)), (some (r 593)), none, (some (s "grammarmill.regex" 882)), none, (some (r 0))]⟩, tp [], o599 P, o600, ⟨(T "super"), none, (.fields #[(r 600), (r 600), (r 600)]), #[]⟩, ⟨(T "builtin_function_or_method"), none, (.fields #[(B "object.__init_subclass__"), (r 600)]), #[]⟩]
noncomputable def S15 (w : World) (os : OsState) : SharedT := ⟨t15 w.params, 603, {}, #[], {}, 1080, os⟩
noncomputable def o491_16 : Obj := ⟨(T "type"), none, (.cls ⟨S "Node", [(T "object")], [(r 491), (T "object")], 490, S "Node", true, [], [(r 505), (r 517), (r 543), (r 576), (r 633)], false, none, false⟩), #[none, none, (some (s "Node" 894)), (some (s "Node" 902)), (some (B "object.__new__")), (some (.bool true))]⟩
noncomputable def o605 (P : Params) : Obj := ⟨(T "dict"), none, (.dict #[e P "__module__" 1087 (s "grammarmill.regex" 882), e P "__qualname__" 1089 (s "Loop" 1088), e P "__firstlineno__" 1091 (j 335 1090), e P "__init__" 1099 (r 616), e P "parts" 1106 (r 623), e P "told" 1113 (r 630), e P "__static_attributes__" 1115 (r 631)] 7), #[]⟩
noncomputable def o608 : Obj := cq "Loop" 1082 "Loop" 1083 1084 335 0 0 0 0 (r 606) false (r 607) N N N 1085 335 1086
noncomputable def o615 : Obj := cq "__init__" 1092 "Loop.__init__" 1093 1094 337 2 0 0 3 (r 610) true (r 611) (r 612) (r 613) (r 614) 1097 337 1098
noncomputable def o616 : Obj := f1 "__init__" "Loop.__init__" (mj 39 0) "grammarmill.regex" 882 615
noncomputable def o622 : Obj := cq "parts" 1100 "Loop.parts" 1101 1102 340 1 0 0 3 (r 617) true (r 618) (r 619) (r 620) (r 621) 1104 340 1105
noncomputable def o623 : Obj := f1 "parts" "Loop.parts" (mj 39 1) "grammarmill.regex" 882 622
noncomputable def o629 : Obj := cq "told" 1107 "Loop.told" 1108 1109 343 1 0 0 3 (r 624) true (r 625) (r 626) (r 627) (r 628) 1111 343 1112
noncomputable def o630 : Obj := f1 "told" "Loop.told" (mj 39 2) "grammarmill.regex" 882 629
noncomputable def o632 (P : Params) : Obj := ⟨(T "dict"), none, (.dict #[e P "__module__" 1087 (s "grammarmill.regex" 882), e P "__firstlineno__" 1091 (j 335 1090), e P "__init__" 1099 (r 616), e P "parts" 1106 (r 623), e P "told" 1113 (r 630), e P "__static_attributes__" 1115 (r 631), e P "__doc__" 1116 N] 2), #[]⟩
noncomputable def t16 (P : Params) : BT := addL (updL (t15 P) [(3, dc ((e P "__name__" 165 (s "grammarmill.regex" 882)) :: ((es3 P).drop 1).take 45) 46), (12, fl (vs12.take 60)), (491, o491_16)]) 603 [tp [(r 491)], ⟨(T "builtin_function_or_method"), none, (.fields #[(B "type.__prepare__"), (T "type")]), #[]⟩, o605 P, tp [], fl [(i 337), (i 4), (r 615), (i 340), (i 4), (r 622), (i 343), (i 4), (r 629)], o608, ⟨(T "frame"), none, .plain, #[(some (r 608)), (some (r 3)), (some (r 605)), none, (some (s "grammarmill.regex" 882)), none, (some (r 0))]⟩, tp [], fl [], tp [(s "self" 1095), (s "body" 1096)], tp [], f0 "__init__" "Loop.__init__" (mj 39 0), o615, o616, tp [], fl [], tp [(s "self" 1103)], tp [], f0 "parts" "Loop.parts" (mj 39 1), o622, o623, tp [], fl [], tp [(s "self" 1110)], tp [], f0 "told" "Loop.told" (mj 39 2), o629, o630, tp [(s "body" 1114)], o632 P, ⟨(T "type"), none, (.cls ⟨S "Loop", [(r 491)], [(r 633), (r 491), (T "object")], 632, S "Loop", true, [], [], false, none, false⟩), #[(some (r 603)), none, (some (s "Loop" 1080)), (some (s "Loop" 1088)), (some (B "object.__new__")), (some (.bool true))]⟩, ⟨(T "super"), none, (.fields #[(r 633), (r 633), (r 633)]), #[]⟩, ⟨(T "builtin_function_or_method"), none, (.fields #[(B "object.__init_subclass__"), (r 633)]), #[]⟩]
noncomputable def S16 (w : World) (os : OsState) : SharedT := ⟨t16 w.params, 636, {}, #[], {}, 1119, os⟩
noncomputable def o638 (P : Params) : Obj := ⟨(T "dict"), none, (.dict #[e P "__module__" 1126 (s "grammarmill.regex" 882), e P "__qualname__" 1128 (s "Star" 1127), e P "__firstlineno__" 1130 (j 345 1129), e P "name" 1132 (s "star" 1131), e P "__static_attributes__" 1133 (r 643)] 5), #[]⟩
noncomputable def o641 : Obj := cq "Star" 1121 "Star" 1122 1123 345 0 0 0 0 (r 639) false (r 640) N N N 1124 345 1125
noncomputable def o644 (P : Params) : Obj := ⟨(T "dict"), none, (.dict #[e P "__module__" 1126 (s "grammarmill.regex" 882), e P "__firstlineno__" 1130 (j 345 1129), e P "name" 1132 (s "star" 1131), e P "__static_attributes__" 1133 (r 643), e P "__doc__" 1134 N] 2), #[]⟩
noncomputable def o645 : Obj := ⟨(T "type"), none, (.cls ⟨S "Star", [(r 633)], [(r 645), (r 633), (r 491), (T "object")], 644, S "Star", true, [], [], false, none, false⟩), #[(some (r 636)), none, (some (s "Star" 1119)), (some (s "Star" 1127)), (some (B "object.__new__")), (some (.bool true))]⟩
noncomputable def t17 (P : Params) : BT := addL (updL (t16 P) [(3, dc ((e P "__name__" 165 (s "grammarmill.regex" 882)) :: ((es3 P).drop 1).take 46) 47), (12, fl (vs12.take 63)), (633, ⟨(T "type"), none, (.cls ⟨S "Loop", [(r 491)], [(r 633), (r 491), (T "object")], 632, S "Loop", true, [], [(r 645)], false, none, false⟩), #[(some (r 603)), none, (some (s "Loop" 1080)), (some (s "Loop" 1088)), (some (B "object.__new__")), (some (.bool true))]⟩)]) 636 [tp [(r 633)], ⟨(T "builtin_function_or_method"), none, (.fields #[(B "type.__prepare__"), (T "type")]), #[]⟩, o638 P, tp [], fl [], o641, ⟨(T "frame"), none, .plain, #[(some (r 641)), (some (r 3)), (some (r 638)), none, (some (s "grammarmill.regex" 882)), none, (some (r 0))]⟩, tp [], o644 P, o645, ⟨(T "super"), none, (.fields #[(r 645), (r 645), (r 645)]), #[]⟩, ⟨(T "builtin_function_or_method"), none, (.fields #[(B "object.__init_subclass__"), (r 645)]), #[]⟩]
noncomputable def S17 (w : World) (os : OsState) : SharedT := ⟨t17 w.params, 648, {}, #[], {}, 1137, os⟩
noncomputable def o650 (P : Params) : Obj := ⟨(T "dict"), none, (.dict #[e P "__module__" 1144 (s "grammarmill.regex" 882), e P "__qualname__" 1146 (s "Plus" 1145), e P "__firstlineno__" 1148 (j 347 1147), e P "name" 1150 (s "plus" 1149), e P "__static_attributes__" 1151 (r 655)] 5), #[]⟩
noncomputable def o653 : Obj := cq "Plus" 1139 "Plus" 1140 1141 347 0 0 0 0 (r 651) false (r 652) N N N 1142 347 1143
noncomputable def o656 (P : Params) : Obj := ⟨(T "dict"), none, (.dict #[e P "__module__" 1144 (s "grammarmill.regex" 882), e P "__firstlineno__" 1148 (j 347 1147), e P "name" 1150 (s "plus" 1149), e P "__static_attributes__" 1151 (r 655), e P "__doc__" 1152 N] 2), #[]⟩
noncomputable def o657 : Obj := ⟨(T "type"), none, (.cls ⟨S "Plus", [(r 633)], [(r 657), (r 633), (r 491), (T "object")], 656, S "Plus", true, [], [], false, none, false⟩), #[(some (r 648)), none, (some (s "Plus" 1137)), (some (s "Plus" 1145)), (some (B "object.__new__")), (some (.bool true))]⟩
noncomputable def t18 (P : Params) : BT := addL (updL (t17 P) [(3, dc ((e P "__name__" 165 (s "grammarmill.regex" 882)) :: ((es3 P).drop 1).take 47) 48), (12, fl (vs12.take 66)), (633, ⟨(T "type"), none, (.cls ⟨S "Loop", [(r 491)], [(r 633), (r 491), (T "object")], 632, S "Loop", true, [], [(r 645), (r 657)], false, none, false⟩), #[(some (r 603)), none, (some (s "Loop" 1080)), (some (s "Loop" 1088)), (some (B "object.__new__")), (some (.bool true))]⟩)]) 648 [tp [(r 633)], ⟨(T "builtin_function_or_method"), none, (.fields #[(B "type.__prepare__"), (T "type")]), #[]⟩, o650 P, tp [], fl [], o653, ⟨(T "frame"), none, .plain, #[(some (r 653)), (some (r 3)), (some (r 650)), none, (some (s "grammarmill.regex" 882)), none, (some (r 0))]⟩, tp [], o656 P, o657, ⟨(T "super"), none, (.fields #[(r 657), (r 657), (r 657)]), #[]⟩, ⟨(T "builtin_function_or_method"), none, (.fields #[(B "object.__init_subclass__"), (r 657)]), #[]⟩]
noncomputable def S18 (w : World) (os : OsState) : SharedT := ⟨t18 w.params, 660, {}, #[], {}, 1155, os⟩
noncomputable def o662 (P : Params) : Obj := ⟨(T "dict"), none, (.dict #[e P "__module__" 1162 (s "grammarmill.regex" 882), e P "__qualname__" 1164 (s "Opt" 1163), e P "__firstlineno__" 1166 (j 349 1165), e P "name" 1168 (s "opt" 1167), e P "__static_attributes__" 1169 (r 667)] 5), #[]⟩
noncomputable def o665 : Obj := cq "Opt" 1157 "Opt" 1158 1159 349 0 0 0 0 (r 663) false (r 664) N N N 1160 349 1161
noncomputable def o668 (P : Params) : Obj := ⟨(T "dict"), none, (.dict #[e P "__module__" 1162 (s "grammarmill.regex" 882), e P "__firstlineno__" 1166 (j 349 1165), e P "name" 1168 (s "opt" 1167), e P "__static_attributes__" 1169 (r 667), e P "__doc__" 1170 N] 2), #[]⟩
noncomputable def o669 : Obj := ⟨(T "type"), none, (.cls ⟨S "Opt", [(r 633)], [(r 669), (r 633), (r 491), (T "object")], 668, S "Opt", true, [], [], false, none, false⟩), #[(some (r 660)), none, (some (s "Opt" 1155)), (some (s "Opt" 1163)), (some (B "object.__new__")), (some (.bool true))]⟩
noncomputable def t19 (P : Params) : BT := addL (updL (t18 P) [(3, dc ((e P "__name__" 165 (s "grammarmill.regex" 882)) :: ((es3 P).drop 1).take 48) 49), (12, fl (vs12.take 69)), (633, ⟨(T "type"), none, (.cls ⟨S "Loop", [(r 491)], [(r 633), (r 491), (T "object")], 632, S "Loop", true, [], [(r 645), (r 657), (r 669)], false, none, false⟩), #[(some (r 603)), none, (some (s "Loop" 1080)), (some (s "Loop" 1088)), (some (B "object.__new__")), (some (.bool true))]⟩)]) 660 [tp [(r 633)], ⟨(T "builtin_function_or_method"), none, (.fields #[(B "type.__prepare__"), (T "type")]), #[]⟩, o662 P, tp [], fl [], o665, ⟨(T "frame"), none, .plain, #[(some (r 665)), (some (r 3)), (some (r 662)), none, (some (s "grammarmill.regex" 882)), none, (some (r 0))]⟩, tp [], o668 P, o669, ⟨(T "super"), none, (.fields #[(r 669), (r 669), (r 669)]), #[]⟩, ⟨(T "builtin_function_or_method"), none, (.fields #[(B "object.__init_subclass__"), (r 669)]), #[]⟩]
noncomputable def S19 (w : World) (os : OsState) : SharedT := ⟨t19 w.params, 672, {}, #[], {}, 1173, os⟩
noncomputable def o633_20 : Obj := ⟨(T "type"), none, (.cls ⟨S "Loop", [(r 491)], [(r 633), (r 491), (T "object")], 632, S "Loop", true, [], [(r 645), (r 657), (r 669), (r 695)], false, none, false⟩), #[(some (r 603)), none, (some (s "Loop" 1080)), (some (s "Loop" 1088)), (some (B "object.__new__")), (some (.bool true))]⟩
noncomputable def o674 (P : Params) : Obj := ⟨(T "dict"), none, (.dict #[e P "__module__" 1180 (s "grammarmill.regex" 882), e P "__qualname__" 1182 (s "Repeat" 1181), e P "__firstlineno__" 1184 (j 351 1183), e P "name" 1186 (s "repeat" 1185), e P "__init__" 1196 (r 685), e P "told" 1203 (r 692), e P "__static_attributes__" 1206 (r 693)] 7), #[]⟩
noncomputable def o677 : Obj := cq "Repeat" 1175 "Repeat" 1176 1177 351 0 0 0 0 (r 675) false (r 676) N N N 1178 351 1179
noncomputable def o684 : Obj := cq "__init__" 1187 "Repeat.__init__" 1188 1189 354 4 0 0 3 (r 679) true (r 680) (r 681) (r 682) (r 683) 1194 354 1195
noncomputable def o685 : Obj := f1 "__init__" "Repeat.__init__" (mj 43 1) "grammarmill.regex" 882 684
noncomputable def o691 : Obj := cq "told" 1197 "Repeat.told" 1198 1199 363 1 0 0 3 (r 686) true (r 687) (r 688) (r 689) (r 690) 1201 363 1202
noncomputable def o692 : Obj := f1 "told" "Repeat.told" (mj 43 2) "grammarmill.regex" 882 691
noncomputable def o694 (P : Params) : Obj := ⟨(T "dict"), none, (.dict #[e P "__module__" 1180 (s "grammarmill.regex" 882), e P "__firstlineno__" 1184 (j 351 1183), e P "name" 1186 (s "repeat" 1185), e P "__init__" 1196 (r 685), e P "told" 1203 (r 692), e P "__static_attributes__" 1206 (r 693), e P "__doc__" 1207 N] 2), #[]⟩
noncomputable def o695 : Obj := ⟨(T "type"), none, (.cls ⟨S "Repeat", [(r 633)], [(r 695), (r 633), (r 491), (T "object")], 694, S "Repeat", true, [], [], false, none, false⟩), #[(some (r 672)), none, (some (s "Repeat" 1173)), (some (s "Repeat" 1181)), (some (B "object.__new__")), (some (.bool true))]⟩
noncomputable def o703 : Obj := cq "spine" 1210 "spine" 1211 1212 365 1 0 0 3 (r 698) true (r 699) (r 700) (r 701) (r 702) 1216 365 1217
noncomputable def o704 : Obj := f1 "spine" "spine" (mi 44) "grammarmill.regex" 882 703
noncomputable def o710 : Obj := cq "cat_all" 1219 "cat_all" 1220 1221 374 1 0 0 3 (r 705) true (r 706) (r 707) (r 708) (r 709) 1225 374 1226
noncomputable def o711 : Obj := f1 "cat_all" "cat_all" (mi 45) "grammarmill.regex" 882 710
noncomputable def o717 : Obj := cq "chars_node" 1228 "chars_node" 1229 1230 381 1 0 0 3 (r 712) true (r 713) (r 714) (r 715) (r 716) 1232 381 1233
noncomputable def o718 : Obj := f1 "chars_node" "chars_node" (mi 46) "grammarmill.regex" 882 717
noncomputable def o724 : Obj := cq "is_figure" 1235 "is_figure" 1236 1237 385 1 0 0 3 (r 719) true (r 720) (r 721) (r 722) (r 723) 1239 385 1240
noncomputable def o725 : Obj := f1 "is_figure" "is_figure" (mi 47) "grammarmill.regex" 882 724
noncomputable def t20 (P : Params) : BT := addL (updL (t19 P) [(3, dc ((e P "__name__" 165 (s "grammarmill.regex" 882)) :: ((es3 P).drop 1).take 53) 54), (12, fl (vs12.take 84)), (633, o633_20)]) 672 [tp [(r 633)], ⟨(T "builtin_function_or_method"), none, (.fields #[(B "type.__prepare__"), (T "type")]), #[]⟩, o674 P, tp [], fl [(i 354), (i 4), (r 684), (i 363), (i 4), (r 691)], o677, ⟨(T "frame"), none, .plain, #[(some (r 677)), (some (r 3)), (some (r 674)), none, (some (s "grammarmill.regex" 882)), none, (some (r 0))]⟩, tp [], fl [], tp [(s "self" 1190), (s "body" 1191), (s "low" 1192), (s "high" 1193)], tp [], f0 "__init__" "Repeat.__init__" (mj 43 1), o684, o685, tp [], fl [], tp [(s "self" 1200)], tp [], f0 "told" "Repeat.told" (mj 43 2), o691, o692, tp [(s "high" 1204), (s "low" 1205)], o694 P, o695, ⟨(T "super"), none, (.fields #[(r 695), (r 695), (r 695)]), #[]⟩, ⟨(T "builtin_function_or_method"), none, (.fields #[(B "object.__init_subclass__"), (r 695)]), #[]⟩, tp [], fl [], tp [(s "node" 1213), (s "parts" 1214), (s "here" 1215)], tp [], f0 "spine" "spine" (mi 44), o703, o704, tp [], fl [], tp [(s "nodes" 1222), (s "node" 1223), (s "part" 1224)], tp [], f0 "cat_all" "cat_all" (mi 45), o710, o711, tp [], fl [], tp [(s "charset" 1231)], tp [], f0 "chars_node" "chars_node" (mi 46), o717, o718, tp [], fl [], tp [(s "sign" 1238)], tp [], f0 "is_figure" "is_figure" (mi 47), o724, o725]
noncomputable def S20 (w : World) (os : OsState) : SharedT := ⟨t20 w.params, 726, {}, #[], {}, 1242, os⟩
noncomputable def o728 (P : Params) : Obj := ⟨(T "dict"), none, (.dict #[e P "__module__" 1249 (s "grammarmill.regex" 882), e P "__qualname__" 1251 (s "RegexReader" 1250), e P "__firstlineno__" 1253 (j 387 1252), e P "__init__" 1264 (r 739), e P "failed" 1273 (r 746), e P "is_over" 1280 (r 753), e P "is_stop" 1288 (r 760), e P "choice" 1296 (r 767), e P "branch" 1304 (r 774), e P "looped" 1315 (r 781), e P "counted" 1326 (r 788), e P "count" 1336 (r 795), e P "single" 1347 (r 802), e P "code_of" 1358 (r 809), e P "quoted" 1364 (r 814), e P "defined" 1373 (r 821), e P "sign_class" 1386 (r 828), e P "named" 1395 (r 835), e P "span" 1405 (r 842), e P "member" 1414 (r 849), e P "__static_attributes__" 1419 (r 850)] 21), #[]⟩
noncomputable def o731 : Obj := cq "RegexReader" 1244 "RegexReader" 1245 1246 387 0 0 0 0 (r 729) false (r 730) N N N 1247 387 1248
noncomputable def o738 : Obj := cq "__init__" 1254 "RegexReader.__init__" 1255 1256 389 5 0 0 3 (r 733) true (r 734) (r 735) (r 736) (r 737) 1262 389 1263
noncomputable def o739 : Obj := f1 "__init__" "RegexReader.__init__" (mj 48 0) "grammarmill.regex" 882 738
noncomputable def o745 : Obj := cq "failed" 1265 "RegexReader.failed" 1266 1267 395 3 0 0 3 (r 740) true (r 741) (r 742) (r 743) (r 744) 1271 395 1272
noncomputable def o746 : Obj := f1 "failed" "RegexReader.failed" (mj 48 1) "grammarmill.regex" 882 745
noncomputable def o752 : Obj := cq "is_over" 1274 "RegexReader.is_over" 1275 1276 398 1 0 0 3 (r 747) true (r 748) (r 749) (r 750) (r 751) 1278 398 1279
noncomputable def o753 : Obj := f1 "is_over" "RegexReader.is_over" (mj 48 2) "grammarmill.regex" 882 752
noncomputable def o759 : Obj := cq "is_stop" 1281 "RegexReader.is_stop" 1282 1283 401 1 0 0 3 (r 754) true (r 755) (r 756) (r 757) (r 758) 1286 401 1287
noncomputable def o760 : Obj := f1 "is_stop" "RegexReader.is_stop" (mj 48 3) "grammarmill.regex" 882 759
noncomputable def o766 : Obj := cq "choice" 1289 "RegexReader.choice" 1290 1291 411 1 0 0 3 (r 761) true (r 762) (r 763) (r 764) (r 765) 1294 411 1295
noncomputable def o767 : Obj := f1 "choice" "RegexReader.choice" (mj 48 4) "grammarmill.regex" 882 766
noncomputable def o773 : Obj := cq "branch" 1297 "RegexReader.branch" 1298 1299 417 1 0 0 3 (r 768) true (r 769) (r 770) (r 771) (r 772) 1302 417 1303
noncomputable def o774 : Obj := f1 "branch" "RegexReader.branch" (mj 48 5) "grammarmill.regex" 882 773
noncomputable def o780 : Obj := cq "looped" 1305 "RegexReader.looped" 1306 1307 423 2 0 0 3 (r 775) true (r 776) (r 777) (r 778) (r 779) 1313 423 1314
noncomputable def o781 : Obj := f1 "looped" "RegexReader.looped" (mj 48 6) "grammarmill.regex" 882 780
noncomputable def o787 : Obj := cq "counted" 1316 "RegexReader.counted" 1317 1318 439 2 0 0 3 (r 782) true (r 783) (r 784) (r 785) (r 786) 1324 439 1325
noncomputable def o788 : Obj := f1 "counted" "RegexReader.counted" (mj 48 7) "grammarmill.regex" 882 787
noncomputable def o794 : Obj := cq "count" 1327 "RegexReader.count" 1328 1329 456 1 0 0 3 (r 789) true (r 790) (r 791) (r 792) (r 793) 1334 456 1335
noncomputable def o795 : Obj := f1 "count" "RegexReader.count" (mj 48 8) "grammarmill.regex" 882 794
noncomputable def o801 : Obj := cq "single" 1337 "RegexReader.single" 1338 1339 465 1 0 0 3 (r 796) true (r 797) (r 798) (r 799) (r 800) 1345 465 1346
noncomputable def o802 : Obj := f1 "single" "RegexReader.single" (mj 48 9) "grammarmill.regex" 882 801
noncomputable def o808 : Obj := cq "code_of" 1348 "RegexReader.code_of" 1349 1350 490 3 0 0 3 (r 803) true (r 804) (r 805) (r 806) (r 807) 1356 490 1357
noncomputable def o809 : Obj := f1 "code_of" "RegexReader.code_of" (mj 48 10) "grammarmill.regex" 882 808
noncomputable def o813 : Obj := cq "quoted" 1359 "RegexReader.quoted" 1360 1361 503 2 0 0 3 (r 810) true (r 811) N N (r 812) 1362 503 1363
noncomputable def o814 : Obj := f1 "quoted" "RegexReader.quoted" (mj 48 11) "grammarmill.regex" 882 813
noncomputable def o820 : Obj := cq "defined" 1365 "RegexReader.defined" 1366 1367 515 2 0 0 3 (r 815) true (r 816) (r 817) (r 818) (r 819) 1371 515 1372
noncomputable def o821 : Obj := f1 "defined" "RegexReader.defined" (mj 48 12) "grammarmill.regex" 882 820
noncomputable def o827 : Obj := cq "sign_class" 1374 "RegexReader.sign_class" 1375 1376 521 2 0 0 3 (r 822) true (r 823) (r 824) (r 825) (r 826) 1384 521 1385
noncomputable def o828 : Obj := f1 "sign_class" "RegexReader.sign_class" (mj 48 13) "grammarmill.regex" 882 827
noncomputable def o834 : Obj := cq "named" 1387 "RegexReader.named" 1388 1389 540 1 0 0 3 (r 829) true (r 830) (r 831) (r 832) (r 833) 1393 540 1394
noncomputable def o835 : Obj := f1 "named" "RegexReader.named" (mj 48 14) "grammarmill.regex" 882 834
noncomputable def o841 : Obj := cq "span" 1396 "RegexReader.span" 1397 1398 548 1 0 0 3 (r 836) true (r 837) (r 838) (r 839) (r 840) 1403 548 1404
noncomputable def o842 : Obj := f1 "span" "RegexReader.span" (mj 48 15) "grammarmill.regex" 882 841
noncomputable def o848 : Obj := cq "member" 1406 "RegexReader.member" 1407 1408 561 1 0 0 3 (r 843) true (r 844) (r 845) (r 846) (r 847) 1412 561 1413
noncomputable def o849 : Obj := f1 "member" "RegexReader.member" (mj 48 16) "grammarmill.regex" 882 848
noncomputable def o851 (P : Params) : Obj := ⟨(T "dict"), none, (.dict #[e P "__module__" 1249 (s "grammarmill.regex" 882), e P "__firstlineno__" 1253 (j 387 1252), e P "__init__" 1264 (r 739), e P "failed" 1273 (r 746), e P "is_over" 1280 (r 753), e P "is_stop" 1288 (r 760), e P "choice" 1296 (r 767), e P "branch" 1304 (r 774), e P "looped" 1315 (r 781), e P "counted" 1326 (r 788), e P "count" 1336 (r 795), e P "single" 1347 (r 802), e P "code_of" 1358 (r 809), e P "quoted" 1364 (r 814), e P "defined" 1373 (r 821), e P "sign_class" 1386 (r 828), e P "named" 1395 (r 835), e P "span" 1405 (r 842), e P "member" 1414 (r 849), e P "__static_attributes__" 1419 (r 850), e P "__dict__" 1421 (r 853), e P "__weakref__" 1423 (r 854), e P "__doc__" 1424 N] 4), #[]⟩
noncomputable def o852 : Obj := ⟨(T "type"), none, (.cls ⟨S "RegexReader", [(T "object")], [(r 852), (T "object")], 851, S "RegexReader", true, [], [], false, none, false⟩), #[none, none, (some (s "RegexReader" 1242)), (some (s "RegexReader" 1250)), (some (B "object.__new__")), (some (.bool true))]⟩
noncomputable def t21 (P : Params) : BT := addL (updL (t20 P) [(3, dc ((e P "__name__" 165 (s "grammarmill.regex" 882)) :: ((es3 P).drop 1).take 54) 55), (12, fl (vs12.take 87))]) 726 [tp [], ⟨(T "builtin_function_or_method"), none, (.fields #[(B "type.__prepare__"), (T "type")]), #[]⟩, o728 P, tp [], fl [(i 389), (i 4), (r 738), (i 395), (i 4), (r 745), (i 398), (i 4), (r 752), (i 401), (i 4), (r 759), (i 411), (i 4), (r 766), (i 417), (i 4), (r 773), (i 423), (i 4), (r 780), (i 439), (i 4), (r 787), (i 456), (i 4), (r 794), (i 465), (i 4), (r 801), (i 490), (i 4), (r 808), (i 503), (i 4), (r 813), (i 515), (i 4), (r 820), (i 521), (i 4), (r 827), (i 540), (i 4), (r 834), (i 548), (i 4), (r 841), (i 561), (i 4), (r 848)], o731, ⟨(T "frame"), none, .plain, #[(some (r 731)), (some (r 3)), (some (r 728)), none, (some (s "grammarmill.regex" 882)), none, (some (r 0))]⟩, tp [], fl [], tp [(s "self" 1257), (s "text" 1258), (s "at" 1259), (s "definitions" 1260), (s "is_pattern" 1261)], tp [], f0 "__init__" "RegexReader.__init__" (mj 48 0), o738, o739, tp [], fl [], tp [(s "self" 1268), (s "what" 1269), (s "at" 1270)], tp [], f0 "failed" "RegexReader.failed" (mj 48 1), o745, o746, tp [], fl [], tp [(s "self" 1277)], tp [], f0 "is_over" "RegexReader.is_over" (mj 48 2), o752, o753, tp [], fl [], tp [(s "self" 1284), (s "sign" 1285)], tp [], f0 "is_stop" "RegexReader.is_stop" (mj 48 3), o759, o760, tp [], fl [], tp [(s "self" 1292), (s "node" 1293)], tp [], f0 "choice" "RegexReader.choice" (mj 48 4), o766, o767, tp [], fl [], tp [(s "self" 1300), (s "row" 1301)], tp [], f0 "branch" "RegexReader.branch" (mj 48 5), o773, o774, tp [], fl [], tp [(s "self" 1308), (s "part" 1309), (s "node" 1310), (s "turn" 1311), (s "begun" 1312)], tp [], f0 "looped" "RegexReader.looped" (mj 48 6), o780, o781, tp [], fl [], tp [(s "self" 1319), (s "body" 1320), (s "opening" 1321), (s "low" 1322), (s "high" 1323)], tp [], f0 "counted" "RegexReader.counted" (mj 48 7), o787, o788, tp [], fl [], tp [(s "self" 1330), (s "begun" 1331), (s "number" 1332), (s "figure" 1333)], tp [], f0 "count" "RegexReader.count" (mj 48 8), o794, o795, tp [], fl [], tp [(s "self" 1340), (s "begun" 1341), (s "sign" 1342), (s "node" 1343), (s "code" 1344)], tp [], f0 "single" "RegexReader.single" (mj 48 9), o801, o802, tp [], fl [], tp [(s "self" 1351), (s "sign" 1352), (s "begun" 1353), (s "told" 1354), (s "code" 1355)], tp [], f0 "code_of" "RegexReader.code_of" (mj 48 10), o808, o809, tp [], fl [], f0 "quoted" "RegexReader.quoted" (mj 48 11), o813, o814, tp [], fl [], tp [(s "self" 1368), (s "begun" 1369), (s "word" 1370)], tp [], f0 "defined" "RegexReader.defined" (mj 48 12), o820, o821, tp [], fl [], tp [(s "self" 1377), (s "begun" 1378), (s "is_turned" 1379), (s "pairs" 1380), (s "is_first" 1381), (s "pair" 1382), (s "charset" 1383)], tp [], f0 "sign_class" "RegexReader.sign_class" (mj 48 13), o827, o828, tp [], fl [], tp [(s "self" 1390), (s "begun" 1391), (s "charset" 1392)], tp [], f0 "named" "RegexReader.named" (mj 48 14), o834, o835, tp [], fl [], tp [(s "self" 1399), (s "begun" 1400), (s "low" 1401), (s "high" 1402)], tp [], f0 "span" "RegexReader.span" (mj 48 15), o841, o842, tp [], fl [], tp [(s "self" 1409), (s "begun" 1410), (s "sign" 1411)], tp [], f0 "member" "RegexReader.member" (mj 48 16), o848, o849, tp [(s "cursor" 1415), (s "definitions" 1416), (s "depth" 1417), (s "is_pattern" 1418)], o851 P, o852, ⟨(T "getset_descriptor"), none, (.fields #[(s "__dict__" 1420), (r 852), (B "function.__dict__"), (B "function.__dict__#set")]), #[]⟩, ⟨(T "getset_descriptor"), none, (.fields #[(s "__weakref__" 1422), (r 852), (B "ExceptionGroup.__weakref__"), N]), #[]⟩, ⟨(T "super"), none, (.fields #[(r 852), (r 852), (r 852)]), #[]⟩, ⟨(T "builtin_function_or_method"), none, (.fields #[(B "object.__init_subclass__"), (r 852)]), #[]⟩]
noncomputable def S21 (w : World) (os : OsState) : SharedT := ⟨t21 w.params, 857, {}, #[], {}, 1427, os⟩
noncomputable def o857 : Obj := tp [N]
noncomputable def o863 : Obj := cq "read_regex" 1427 "read_regex" 1428 1429 567 2 0 0 3 (r 858) true (r 859) (r 860) (r 861) (r 862) 1434 567 1435
noncomputable def o864 : Obj := ⟨(T "function"), none, (.func (fd "read_regex" "read_regex" (mi 49) 3 (r 857) N N (s "grammarmill.regex" 882) (r 863) N 0 none)), #[]⟩
noncomputable def o870 : Obj := cq "show_sign" 1447 "show_sign" 1448 1449 578 1 0 0 3 (r 865) true (r 866) (r 867) (r 868) (r 869) 1451 578 1452
noncomputable def o871 : Obj := f1 "show_sign" "show_sign" (mi 55) "grammarmill.regtools" 1437 870
noncomputable def o877 : Obj := cq "show_chars" 1454 "show_chars" 1455 1456 582 1 0 0 3 (r 872) true (r 873) (r 874) (r 875) (r 876) 1458 582 1459
noncomputable def o878 : Obj := f1 "show_chars" "show_chars" (mi 56) "grammarmill.regtools" 1437 877
noncomputable def o884 : Obj := cq "show_count" 1461 "show_count" 1462 1463 588 2 0 0 3 (r 879) true (r 880) (r 881) (r 882) (r 883) 1466 588 1467
noncomputable def o885 : Obj := f1 "show_count" "show_count" (mi 57) "grammarmill.regtools" 1437 884
noncomputable def o889 : Obj := cq "show_at" 1469 "show_at" 1470 1471 594 2 0 0 3 (r 886) true (r 887) N N (r 888) 1472 594 1473
noncomputable def o890 : Obj := f1 "show_at" "show_at" (mi 58) "grammarmill.regtools" 1437 889
noncomputable def o896 : Obj := cq "show_regex" 1475 "show_regex" 1476 1477 619 1 0 0 3 (r 891) true (r 892) (r 893) (r 894) (r 895) 1479 619 1480
noncomputable def o897 : Obj := f1 "show_regex" "show_regex" (mi 59) "grammarmill.regtools" 1437 896
noncomputable def o901 : Obj := cq "_law_pen" 1486 "_law_pen" 1487 1488 623 1 0 0 3 (r 898) true (r 899) N N (r 900) 1489 623 1490
noncomputable def o902 : Obj := f1 "_law_pen" "_law_pen" (mi 62) "law_pq0578_01" 1482 901
noncomputable def o908 : Obj := cq "_law_draw" 1492 "_law_draw" 1493 1494 625 2 0 0 3 (r 903) true (r 904) (r 905) (r 906) (r 907) 1502 625 1503
noncomputable def o909 : Obj := f1 "_law_draw" "_law_draw" (mi 63) "law_pq0578_01" 1482 908
noncomputable def o913 : Obj := cq "_law_words" 1505 "_law_words" 1506 1507 641 0 0 0 3 (r 910) true (r 911) N N (r 912) 1508 641 1509
noncomputable def o914 : Obj := f1 "_law_words" "_law_words" (mi 64) "law_pq0578_01" 1482 913
noncomputable def o918 : Obj := cq "_law_held" 1511 "_law_held" 1512 1513 652 2 0 0 3 (r 915) true (r 916) N N (r 917) 1514 652 1515
noncomputable def o919 : Obj := f1 "_law_held" "_law_held" (mi 65) "law_pq0578_01" 1482 918
noncomputable def o925 : Obj := cq "_law_spans" 1517 "_law_spans" 1518 1519 665 1 0 0 3 (r 920) true (r 921) (r 922) (r 923) (r 924) 1523 665 1524
noncomputable def o926 : Obj := f1 "_law_spans" "_law_spans" (mi 66) "law_pq0578_01" 1482 925
noncomputable def o932 : Obj := cq "_law_hex" 1526 "_law_hex" 1527 1528 673 1 0 0 3 (r 927) true (r 928) (r 929) (r 930) (r 931) 1530 673 1531
noncomputable def o933 : Obj := f1 "_law_hex" "_law_hex" (mi 67) "law_pq0578_01" 1482 932
noncomputable def o939 : Obj := cq "_law_inner" 1533 "_law_inner" 1534 1535 675 1 0 0 3 (r 934) true (r 935) (r 936) (r 937) (r 938) 1537 675 1538
noncomputable def o940 : Obj := f1 "_law_inner" "_law_inner" (mi 68) "law_pq0578_01" 1482 939
noncomputable def t22 (P : Params) : BT := addL (updL (t21 P) [(3, dc ((e P "__name__" 165 (s "law_pq0578_01" 1482)) :: ((es3 P).drop 1).take 72) 73), (12, fl (vs12.take 126))]) 857 [o857, tp [], fl [], tp [(s "text" 1430), (s "definitions" 1431), (s "reader" 1432), (s "node" 1433)], tp [], f0 "read_regex" "read_regex" (mi 49), o863, o864, tp [], fl [], tp [(s "sign" 1450)], tp [], f0 "show_sign" "show_sign" (mi 55), o870, o871, tp [], fl [], tp [(s "charset" 1457)], tp [], f0 "show_chars" "show_chars" (mi 56), o877, o878, tp [], fl [], tp [(s "low" 1464), (s "high" 1465)], tp [], f0 "show_count" "show_count" (mi 57), o884, o885, tp [], fl [], f0 "show_at" "show_at" (mi 58), o889, o890, tp [], fl [], tp [(s "node" 1478)], tp [], f0 "show_regex" "show_regex" (mi 59), o896, o897, tp [], fl [], f0 "_law_pen" "_law_pen" (mi 62), o901, o902, tp [], fl [], tp [(s "pen" 1495), (s "many" 1496), (s "digit" 1497), (s "spot" 1498), (s "cell" 1499), (s "great" 1500), (s "mixed" 1501)], tp [], f0 "_law_draw" "_law_draw" (mi 63), o908, o909, tp [], fl [], f0 "_law_words" "_law_words" (mi 64), o913, o914, tp [], fl [], f0 "_law_held" "_law_held" (mi 65), o918, o919, tp [], fl [], tp [(s "held" 1520), (s "found" 1521), (s "code" 1522)], tp [], f0 "_law_spans" "_law_spans" (mi 66), o925, o926, tp [], fl [], tp [(s "code" 1529)], tp [], f0 "_law_hex" "_law_hex" (mi 67), o932, o933, tp [], fl [], tp [(s "code" 1536)], tp [], f0 "_law_inner" "_law_inner" (mi 68), o939, o940]
noncomputable def S22 (w : World) (os : OsState) : SharedT := ⟨t22 w.params, 941, {}, #[], {}, 1540, os⟩
noncomputable def o3_23 (P : Params) : Obj := dc ((e P "__name__" 165 (s "law_pq0578_01" 1482)) :: ((es3 P).drop 1).take 78) 79
noncomputable def o946 : Obj := cq "_law_shown" 1540 "_law_shown" 1541 1542 679 1 0 0 3 (r 941) true (r 942) (r 943) (r 944) (r 945) 1549 679 1550
noncomputable def o947 : Obj := f1 "_law_shown" "_law_shown" (mi 69) "law_pq0578_01" 1482 946
noncomputable def o953 : Obj := cq "_law_spelled" 1552 "_law_spelled" 1553 1554 696 2 0 0 3 (r 948) true (r 949) (r 950) (r 951) (r 952) 1558 696 1559
noncomputable def o954 : Obj := f1 "_law_spelled" "_law_spelled" (mi 70) "law_pq0578_01" 1482 953
noncomputable def o958 : Obj := cq "_law_class" 1561 "_law_class" 1562 1563 707 3 0 0 3 (r 955) true (r 956) N N (r 957) 1564 707 1565
noncomputable def o959 : Obj := f1 "_law_class" "_law_class" (mi 71) "law_pq0578_01" 1482 958
noncomputable def o965 : Obj := cq "_law_heard" 1567 "_law_heard" 1568 1569 722 1 0 0 3 (r 960) true (r 961) (r 962) (r 963) (r 964) 1571 722 1572
noncomputable def o966 : Obj := f1 "_law_heard" "_law_heard" (mi 72) "law_pq0578_01" 1482 965
noncomputable def o970 : Obj := cq "_law_refused" 1574 "_law_refused" 1575 1576 727 1 0 0 3 (r 967) true (r 968) N N (r 969) 1577 727 1578
noncomputable def o971 : Obj := f1 "_law_refused" "_law_refused" (mi 73) "law_pq0578_01" 1482 970
noncomputable def o977 : Obj := cq "law" 1580 "law" 1581 1582 735 1 0 0 3 (r 972) true (r 973) (r 974) (r 975) (r 976) 1595 735 1596
noncomputable def o978 : Obj := f1 "law" "law" (mi 74) "law_pq0578_01" 1482 977
noncomputable def t23 (P : Params) : BT := addL (updL (t22 P) [(3, o3_23 P), (12, fl (vs12.take 144))]) 941 [tp [], fl [], tp [(s "held" 1543), (s "spans" 1544), (s "code" 1545), (s "text" 1546), (s "low" 1547), (s "high" 1548)], tp [], f0 "_law_shown" "_law_shown" (mi 69), o946, o947, tp [], fl [], tp [(s "pen" 1555), (s "code" 1556), (s "way" 1557)], tp [], f0 "_law_spelled" "_law_spelled" (mi 70), o953, o954, tp [], fl [], f0 "_law_class" "_law_class" (mi 71), o958, o959, tp [], fl [], tp [(s "text" 1570)], tp [], f0 "_law_heard" "_law_heard" (mi 72), o965, o966, tp [], fl [], f0 "_law_refused" "_law_refused" (mi 73), o970, o971, tp [], fl [], tp [(s "script" 1583), (s "pen" 1584), (s "words" 1585), (s "held" 1586), (s "spans" 1587), (s "pairs" 1588), (s "low" 1589), (s "high" 1590), (s "middle" 1591), (s "made" 1592), (s "due" 1593), (s "text" 1594)], tp [], f0 "law" "law" (mi 74), o977, o978]
noncomputable def S23 (w : World) (os : OsState) : SharedT := ⟨t23 w.params, 979, {}, #[], {}, 1598, os⟩
noncomputable def env0 : Env := { scope := pw.main.scope, locals := mainNs, globals := mainNs, cells := [], code := .ref 13, frame := some 14 }
noncomputable def c0 : Code := .body pw.main.body env0
noncomputable def fr0 : List Frame := [topFrame ⟨0, 0, 0, 0⟩]
noncomputable def G (a n : Nat) : List Stmt := (pw.main.body.drop a).take n
end Mine
end
section
open PySem PySem.W PyProof.Rows
namespace Mine
theorem k1 : ∀ w : World, (fun os => segRunT treeTable pw w 11 (some (.ref 6)) 1 134 (S0 w os) ⟨(execs (G 0 9) env0).wrap doneF deadEnd id id, c0, ⟨0, 0, 0, 0⟩, fr0⟩) = fun os => some (.next, S1 w os, c0, ⟨11, 0, 11, 12⟩) := by
 intro w; rewrite [PySem.W.Fast.te10110043849684766642, PySem.W.Fast.te14364793385576792824, PySem.W.Fast.te12563942051412417395]; kernel_rfl
theorem k2f : ∀ w : World, (fun os => segRunT treeTable pw (w.withFollow "special-get-raises" false) 11 (some (.ref 6)) 1 116 (S1 (w.withFollow "special-get-raises" false) os) ⟨(execs (G 9 1) env0).wrap doneF deadEnd id id, c0, ⟨11, 0, 11, 12⟩, fr0⟩) = fun os => some (.next, S2 (w.withFollow "special-get-raises" false) os, c0, ⟨12, 0, 12, 13⟩) := by
 intro w; rewrite [PySem.W.Fast.te10110043849684766642, PySem.W.Fast.te14364793385576792824, PySem.W.Fast.te12563942051412417395]; kernel_rfl
theorem k2t : ∀ w : World, (fun os => segRunT treeTable pw (w.withFollow "special-get-raises" true) 11 (some (.ref 6)) 1 116 (S1 (w.withFollow "special-get-raises" true) os) ⟨(execs (G 9 1) env0).wrap doneF deadEnd id id, c0, ⟨11, 0, 11, 12⟩, fr0⟩) = fun os => some (.next, S2 (w.withFollow "special-get-raises" true) os, c0, ⟨12, 0, 12, 13⟩) := by
 intro w; rewrite [PySem.W.Fast.te10110043849684766642, PySem.W.Fast.te14364793385576792824, PySem.W.Fast.te12563942051412417395]; kernel_rfl
theorem k2 : ∀ w : World, (fun os => segRunT treeTable pw w 11 (some (.ref 6)) 1 116 (S1 w os) ⟨(execs (G 9 1) env0).wrap doneF deadEnd id id, c0, ⟨11, 0, 11, 12⟩, fr0⟩) = fun os => some (.next, S2 w os, c0, ⟨12, 0, 12, 13⟩) := krow k2f k2t
theorem k3 : ∀ w : World, (fun os => segRunT treeTable pw w 11 (some (.ref 6)) 1 292 (S2 w os) ⟨(execs (G 10 2) env0).wrap doneF deadEnd id id, c0, ⟨12, 0, 12, 13⟩, fr0⟩) = fun os => some (.next, S3 w os, c0, ⟨22, 0, 30, 45⟩) := by
 intro w; rewrite [PySem.W.Fast.te10110043849684766642, PySem.W.Fast.te14364793385576792824, PySem.W.Fast.te12563942051412417395]; kernel_rfl
theorem k4 : ∀ w : World, (fun os => segRunT treeTable pw w 11 (some (.ref 6)) 1 263 (S3 w os) ⟨(execs (G 12 1) env0).wrap doneF deadEnd id id, c0, ⟨22, 0, 30, 45⟩, fr0⟩) = fun os => some (.next, S4 w os, c0, ⟨31, 0, 41, 29⟩) := by
 intro w; rewrite [PySem.W.Fast.te10110043849684766642, PySem.W.Fast.te14364793385576792824, PySem.W.Fast.te12563942051412417395]; kernel_rfl
theorem k5 : ∀ w : World, (fun os => segRunT treeTable pw w 11 (some (.ref 6)) 1 214 (S4 w os) ⟨(execs (G 13 1) env0).wrap doneF deadEnd id id, c0, ⟨31, 0, 41, 29⟩, fr0⟩) = fun os => some (.next, S5 w os, c0, ⟨42, 0, 43, 8⟩) := by
 intro w; rewrite [PySem.W.Fast.te10110043849684766642, PySem.W.Fast.te14364793385576792824, PySem.W.Fast.te12563942051412417395]; kernel_rfl
theorem k6 : ∀ w : World, (fun os => segRunT treeTable pw w 11 (some (.ref 6)) 1 717 (S5 w os) ⟨(execs (G 14 1) env0).wrap doneF deadEnd id id, c0, ⟨42, 0, 43, 8⟩, fr0⟩) = fun os => some (.next, S6 w os, c0, ⟨44, 0, 140, 19⟩) := by
 intro w; rewrite [PySem.W.Fast.te10110043849684766642, PySem.W.Fast.te14364793385576792824, PySem.W.Fast.te12563942051412417395]; kernel_rfl
theorem k7 : ∀ w : World, (fun os => segRunT treeTable pw w 11 (some (.ref 6)) 1 98 (S6 w os) ⟨(execs (G 15 6) env0).wrap doneF deadEnd id id, c0, ⟨44, 0, 140, 19⟩, fr0⟩) = fun os => some (.next, S7 w os, c0, ⟨158, 0, 158, 13⟩) := by
 intro w; rewrite [PySem.W.Fast.te10110043849684766642, PySem.W.Fast.te14364793385576792824, PySem.W.Fast.te12563942051412417395]; kernel_rfl
theorem k8f : ∀ w : World, (fun os => segRunT treeTable pw (w.withFollow "special-get-raises" false) 11 (some (.ref 6)) 1 295 (S7 (w.withFollow "special-get-raises" false) os) ⟨(execs (G 21 1) env0).wrap doneF deadEnd id id, c0, ⟨158, 0, 158, 13⟩, fr0⟩) = fun os => some (.next, S8 (w.withFollow "special-get-raises" false) os, c0, ⟨159, 0, 159, 11⟩) := by
 intro w; rewrite [PySem.W.Fast.te10110043849684766642, PySem.W.Fast.te14364793385576792824, PySem.W.Fast.te12563942051412417395]; kernel_rfl
theorem k8t : ∀ w : World, (fun os => segRunT treeTable pw (w.withFollow "special-get-raises" true) 11 (some (.ref 6)) 1 295 (S7 (w.withFollow "special-get-raises" true) os) ⟨(execs (G 21 1) env0).wrap doneF deadEnd id id, c0, ⟨158, 0, 158, 13⟩, fr0⟩) = fun os => some (.next, S8 (w.withFollow "special-get-raises" true) os, c0, ⟨159, 0, 159, 11⟩) := by
 intro w; rewrite [PySem.W.Fast.te10110043849684766642, PySem.W.Fast.te14364793385576792824, PySem.W.Fast.te12563942051412417395]; kernel_rfl
theorem k8 : ∀ w : World, (fun os => segRunT treeTable pw w 11 (some (.ref 6)) 1 295 (S7 w os) ⟨(execs (G 21 1) env0).wrap doneF deadEnd id id, c0, ⟨158, 0, 158, 13⟩, fr0⟩) = fun os => some (.next, S8 w os, c0, ⟨159, 0, 159, 11⟩) := krow k8f k8t
theorem k9 : ∀ w : World, (fun os => segRunT treeTable pw w 11 (some (.ref 6)) 1 1626 (S8 w os) ⟨(execs (G 22 1) env0).wrap doneF deadEnd id id, c0, ⟨159, 0, 159, 11⟩, fr0⟩) = fun os => some (.next, S9 w os, c0, ⟨160, 0, 266, 25⟩) := by
 intro w; rewrite [PySem.W.Fast.te10110043849684766642, PySem.W.Fast.te14364793385576792824, PySem.W.Fast.te12563942051412417395]; kernel_rfl
theorem k10 : ∀ w : World, (fun os => segRunT treeTable pw w 11 (some (.ref 6)) 1 408 (S9 w os) ⟨(execs (G 23 10) env0).wrap doneF deadEnd id id, c0, ⟨160, 0, 266, 25⟩, fr0⟩) = fun os => some (.next, S10 w os, c0, ⟨296, 0, 303, 27⟩) := by
 intro w; rewrite [PySem.W.Fast.te10110043849684766642, PySem.W.Fast.te14364793385576792824, PySem.W.Fast.te12563942051412417395]; kernel_rfl
theorem k11 : ∀ w : World, (fun os => segRunT treeTable pw w 11 (some (.ref 6)) 1 445 (S10 w os) ⟨(execs (G 33 2) env0).wrap doneF deadEnd id id, c0, ⟨296, 0, 303, 27⟩, fr0⟩) = fun os => some (.next, S11 w os, c0, ⟨306, 0, 307, 18⟩) := by
 intro w; rewrite [PySem.W.Fast.te10110043849684766642, PySem.W.Fast.te14364793385576792824, PySem.W.Fast.te12563942051412417395]; kernel_rfl
theorem k12 : ∀ w : World, (fun os => segRunT treeTable pw w 11 (some (.ref 6)) 1 287 (S11 w os) ⟨(execs (G 35 1) env0).wrap doneF deadEnd id id, c0, ⟨306, 0, 307, 18⟩, fr0⟩) = fun os => some (.next, S12 w os, c0, ⟨308, 0, 315, 46⟩) := by
 intro w; rewrite [PySem.W.Fast.te10110043849684766642, PySem.W.Fast.te14364793385576792824, PySem.W.Fast.te12563942051412417395]; kernel_rfl
theorem k13 : ∀ w : World, (fun os => segRunT treeTable pw w 11 (some (.ref 6)) 1 313 (S12 w os) ⟨(execs (G 36 1) env0).wrap doneF deadEnd id id, c0, ⟨308, 0, 315, 46⟩, fr0⟩) = fun os => some (.next, S13 w os, c0, ⟨316, 0, 330, 19⟩) := by
 intro w; rewrite [PySem.W.Fast.te10110043849684766642, PySem.W.Fast.te14364793385576792824, PySem.W.Fast.te12563942051412417395]; kernel_rfl
theorem k14 : ∀ w : World, (fun os => segRunT treeTable pw w 11 (some (.ref 6)) 1 237 (S13 w os) ⟨(execs (G 37 1) env0).wrap doneF deadEnd id id, c0, ⟨316, 0, 330, 19⟩, fr0⟩) = fun os => some (.next, S14 w os, c0, ⟨331, 0, 332, 16⟩) := by
 intro w; rewrite [PySem.W.Fast.te10110043849684766642, PySem.W.Fast.te14364793385576792824, PySem.W.Fast.te12563942051412417395]; kernel_rfl
theorem k15 : ∀ w : World, (fun os => segRunT treeTable pw w 11 (some (.ref 6)) 1 237 (S14 w os) ⟨(execs (G 38 1) env0).wrap doneF deadEnd id id, c0, ⟨331, 0, 332, 16⟩, fr0⟩) = fun os => some (.next, S15 w os, c0, ⟨333, 0, 334, 16⟩) := by
 intro w; rewrite [PySem.W.Fast.te10110043849684766642, PySem.W.Fast.te14364793385576792824, PySem.W.Fast.te12563942051412417395]; kernel_rfl
theorem k16 : ∀ w : World, (fun os => segRunT treeTable pw w 11 (some (.ref 6)) 1 308 (S15 w os) ⟨(execs (G 39 1) env0).wrap doneF deadEnd id id, c0, ⟨333, 0, 334, 16⟩, fr0⟩) = fun os => some (.next, S16 w os, c0, ⟨335, 0, 344, 44⟩) := by
 intro w; rewrite [PySem.W.Fast.te10110043849684766642, PySem.W.Fast.te14364793385576792824, PySem.W.Fast.te12563942051412417395]; kernel_rfl
theorem k17 : ∀ w : World, (fun os => segRunT treeTable pw w 11 (some (.ref 6)) 1 237 (S16 w os) ⟨(execs (G 40 1) env0).wrap doneF deadEnd id id, c0, ⟨335, 0, 344, 44⟩, fr0⟩) = fun os => some (.next, S17 w os, c0, ⟨345, 0, 346, 17⟩) := by
 intro w; rewrite [PySem.W.Fast.te10110043849684766642, PySem.W.Fast.te14364793385576792824, PySem.W.Fast.te12563942051412417395]; kernel_rfl
theorem k18 : ∀ w : World, (fun os => segRunT treeTable pw w 11 (some (.ref 6)) 1 237 (S17 w os) ⟨(execs (G 41 1) env0).wrap doneF deadEnd id id, c0, ⟨345, 0, 346, 17⟩, fr0⟩) = fun os => some (.next, S18 w os, c0, ⟨347, 0, 348, 17⟩) := by
 intro w; rewrite [PySem.W.Fast.te10110043849684766642, PySem.W.Fast.te14364793385576792824, PySem.W.Fast.te12563942051412417395]; kernel_rfl
theorem k19 : ∀ w : World, (fun os => segRunT treeTable pw w 11 (some (.ref 6)) 1 237 (S18 w os) ⟨(execs (G 42 1) env0).wrap doneF deadEnd id id, c0, ⟨347, 0, 348, 17⟩, fr0⟩) = fun os => some (.next, S19 w os, c0, ⟨349, 0, 350, 16⟩) := by
 intro w; rewrite [PySem.W.Fast.te10110043849684766642, PySem.W.Fast.te14364793385576792824, PySem.W.Fast.te12563942051412417395]; kernel_rfl
theorem k20 : ∀ w : World, (fun os => segRunT treeTable pw w 11 (some (.ref 6)) 1 424 (S19 w os) ⟨(execs (G 43 5) env0).wrap doneF deadEnd id id, c0, ⟨349, 0, 350, 16⟩, fr0⟩) = fun os => some (.next, S20 w os, c0, ⟨385, 0, 386, 41⟩) := by
 intro w; rewrite [PySem.W.Fast.te10110043849684766642, PySem.W.Fast.te14364793385576792824, PySem.W.Fast.te12563942051412417395]; kernel_rfl
theorem k21 : ∀ w : World, (fun os => segRunT treeTable pw w 11 (some (.ref 6)) 1 761 (S20 w os) ⟨(execs (G 48 1) env0).wrap doneF deadEnd id id, c0, ⟨385, 0, 386, 41⟩, fr0⟩) = fun os => some (.next, S21 w os, c0, ⟨387, 0, 566, 40⟩) := by
 intro w; rewrite [PySem.W.Fast.te10110043849684766642, PySem.W.Fast.te14364793385576792824, PySem.W.Fast.te12563942051412417395]; kernel_rfl
theorem k22 : ∀ w : World, (fun os => segRunT treeTable pw w 11 (some (.ref 6)) 1 442 (S21 w os) ⟨(execs (G 49 20) env0).wrap doneF deadEnd id id, c0, ⟨387, 0, 566, 40⟩, fr0⟩) = fun os => some (.next, S22 w os, c0, ⟨675, 0, 678, 67⟩) := by
 intro w; rewrite [PySem.W.Fast.te10110043849684766642, PySem.W.Fast.te14364793385576792824, PySem.W.Fast.te12563942051412417395]; kernel_rfl
theorem k23 : ∀ w : World, (fun os => segRunT treeTable pw w 11 (some (.ref 6)) 1 187 (S22 w os) ⟨(execs (G 69 6) env0).wrap doneF deadEnd id id, c0, ⟨675, 0, 678, 67⟩, fr0⟩) = fun os => some (.next, S23 w os, c0, ⟨735, 0, 751, 28⟩) := by
 intro w; rewrite [PySem.W.Fast.te10110043849684766642, PySem.W.Fast.te14364793385576792824, PySem.W.Fast.te12563942051412417395]; kernel_rfl
end Mine
end
section
open PySem PySem.W PyProof.Rows
namespace Mine
noncomputable def kAddrs : List Addr := [2, 3, 20, 21, 22, 25, 28, 35, 36, 42, 43, 45, 46, 56, 57, 60, 63, 65, 71, 72, 78, 79, 81, 82, 88, 91, 94, 95, 100, 103, 105, 111, 112, 118, 119, 120, 126, 127, 133, 134, 140, 141, 147, 148, 154, 155, 161, 162, 163, 169, 170, 176, 177, 183, 184, 190, 191, 197, 198, 204, 205, 211, 212, 218, 219, 221, 222, 232, 233, 239, 240, 241, 242, 243, 244, 245, 246, 247, 248, 249, 250, 251, 252, 253, 254, 255, 256, 257, 258, 259, 260, 261, 262, 263, 264, 265, 266, 267, 268, 269, 270, 271, 272, 273, 274, 275, 276, 279, 282, 289, 290, 296, 297, 298, 299, 300, 306, 307, 308, 309, 310, 316, 317, 318, 319, 320, 324, 325, 326, 327, 328, 334, 335, 336, 337, 338, 344, 345, 346, 347, 348, 354, 355, 361, 362, 368, 369, 375, 376, 382, 383, 389, 390, 396, 397, 403, 404, 410, 411, 417, 418, 424, 425, 431, 432, 438, 439, 441, 442, 452, 453, 459, 460, 466, 467, 470, 473, 480, 481, 487, 488, 490, 491, 498, 501, 504, 505, 510, 513, 516, 517, 522, 525, 532, 533, 539, 540, 542, 543, 548, 551, 558, 559, 565, 566, 572, 573, 575, 576, 581, 584, 587, 588, 593, 596, 599, 600, 605, 608, 615, 616, 622, 623, 629, 630, 632, 633, 638, 641, 644, 645, 650, 653, 656, 657, 662, 665, 668, 669, 674, 677, 684, 685, 691, 692, 694, 695, 703, 704, 710, 711, 717, 718, 724, 725, 728, 731, 738, 739, 745, 746, 752, 753, 759, 760, 766, 767, 773, 774, 780, 781, 787, 788, 794, 795, 801, 802, 808, 809, 813, 814, 820, 821, 827, 828, 834, 835, 841, 842, 848, 849, 851, 852, 857, 863, 864, 870, 871, 877, 878, 884, 885, 889, 890, 896, 897, 901, 902, 908, 909, 913, 914, 918, 919, 925, 926, 932, 933, 939, 940, 946, 947, 953, 954, 958, 959, 965, 966, 970, 971, 977, 978]
noncomputable def K (P : Params) : Frag := [(2, o2_4 P), (3, o3_23 P), (20, o20), (21, o21), (22, o22 P), (25, o25 P), (28, o28), (35, o35), (36, o36), (42, o42), (43, o43), (45, o45 P), (46, o46), (56, o56), (57, o57), (60, o60 P), (63, o63), (65, o65), (71, o71), (72, o72), (78, o78), (79, o79), (81, o81 P), (82, o82_5), (88, o88 P), (91, o91), (94, o94 P), (95, o95), (100, o100 P), (103, o103), (105, o105), (111, o111), (112, o112), (118, o118), (119, o119), (120, o120), (126, o126), (127, o127), (133, o133), (134, o134), (140, o140), (141, o141), (147, o147), (148, o148), (154, o154), (155, o155), (161, o161), (162, o162), (163, o163), (169, o169), (170, o170), (176, o176), (177, o177), (183, o183), (184, o184), (190, o190), (191, o191), (197, o197), (198, o198), (204, o204), (205, o205), (211, o211), (212, o212), (218, o218), (219, o219), (221, o221 P), (222, o222), (232, o232), (233, o233), (239, o239), (240, o240), (241, o241 P), (242, o242), (243, o243), (244, o244), (245, o245), (246, o246), (247, o247), (248, o248), (249, o249), (250, o250), (251, o251), (252, o252), (253, o253), (254, o254), (255, o255), (256, o256), (257, o257), (258, o258), (259, o259), (260, o260), (261, o261), (262, o262), (263, o263), (264, o264), (265, o265), (266, o266), (267, o267), (268, o268), (269, o269), (270, o270), (271, o271), (272, o272), (273, o273), (274, o274), (275, o275), (276, o276), (279, o279 P), (282, o282), (289, o289), (290, o290), (296, o296), (297, o297), (298, o298 P), (299, o299), (300, o300), (306, o306), (307, o307), (308, o308 P), (309, o309), (310, o310), (316, o316), (317, o317), (318, o318 P), (319, o319), (320, o320), (324, o324), (325, o325), (326, o326 P), (327, o327), (328, o328), (334, o334), (335, o335), (336, o336 P), (337, o337), (338, o338), (344, o344), (345, o345), (346, o346 P), (347, o347), (348, o348), (354, o354), (355, o355), (361, o361), (362, o362), (368, o368), (369, o369), (375, o375), (376, o376), (382, o382), (383, o383), (389, o389), (390, o390), (396, o396), (397, o397), (403, o403), (404, o404), (410, o410), (411, o411), (417, o417), (418, o418), (424, o424), (425, o425), (431, o431), (432, o432), (438, o438), (439, o439), (441, o441 P), (442, o442), (452, o452), (453, o453), (459, o459), (460, o460), (466, o466), (467, o467), (470, o470 P), (473, o473), (480, o480), (481, o481), (487, o487), (488, o488), (490, o490 P), (491, o491_16), (498, o498 P), (501, o501), (504, o504 P), (505, o505), (510, o510 P), (513, o513), (516, o516 P), (517, o517), (522, o522 P), (525, o525), (532, o532), (533, o533), (539, o539), (540, o540), (542, o542 P), (543, o543), (548, o548 P), (551, o551), (558, o558), (559, o559), (565, o565), (566, o566), (572, o572), (573, o573), (575, o575 P), (576, o576_15), (581, o581 P), (584, o584), (587, o587 P), (588, o588), (593, o593 P), (596, o596), (599, o599 P), (600, o600), (605, o605 P), (608, o608), (615, o615), (616, o616), (622, o622), (623, o623), (629, o629), (630, o630), (632, o632 P), (633, o633_20), (638, o638 P), (641, o641), (644, o644 P), (645, o645), (650, o650 P), (653, o653), (656, o656 P), (657, o657), (662, o662 P), (665, o665), (668, o668 P), (669, o669), (674, o674 P), (677, o677), (684, o684), (685, o685), (691, o691), (692, o692), (694, o694 P), (695, o695), (703, o703), (704, o704), (710, o710), (711, o711), (717, o717), (718, o718), (724, o724), (725, o725), (728, o728 P), (731, o731), (738, o738), (739, o739), (745, o745), (746, o746), (752, o752), (753, o753), (759, o759), (760, o760), (766, o766), (767, o767), (773, o773), (774, o774), (780, o780), (781, o781), (787, o787), (788, o788), (794, o794), (795, o795), (801, o801), (802, o802), (808, o808), (809, o809), (813, o813), (814, o814), (820, o820), (821, o821), (827, o827), (828, o828), (834, o834), (835, o835), (841, o841), (842, o842), (848, o848), (849, o849), (851, o851 P), (852, o852), (857, o857), (863, o863), (864, o864), (870, o870), (871, o871), (877, o877), (878, o878), (884, o884), (885, o885), (889, o889), (890, o890), (896, o896), (897, o897), (901, o901), (902, o902), (908, o908), (909, o909), (913, o913), (914, o914), (918, o918), (919, o919), (925, o925), (926, o926), (932, o932), (933, o933), (939, o939), (940, o940), (946, o946), (947, o947), (953, o953), (954, o954), (958, o958), (959, o959), (965, o965), (966, o966), (970, o970), (971, o971), (977, o977), (978, o978)]
theorem kA (P : Params) : kAddrs = (K P).map (·.1) := by kernel_rfl
noncomputable abbrev HK : Hook := kHook K kAddrs kA
noncomputable def qv : Program := view pw [74]
noncomputable def loosev : List Str := [S "_wall", S "SMALL", S "LETTERS", S "FIGURES", S "NAME_SIGNS", S "HEX_SIGNS", S "OCTAL_SIGNS", S "MOST_FIGURES", S "PLAIN_ESCAPES", S "Position", S "position_of", S "ToolError", S "RegexError", S "Cursor", S "hex_escape", S "escaped_sign", S "TOP", S "HEX", S "BRACKET_SIGNS", S "CLASS_SPANS", S "CharSet", S "show_code", S "told", S "named_class", S "MOST_REPEAT", S "MOST_NESTED", S "BLANKS", S "STRAY_SIGNS", S "NEWLINE", S "Node", S "Empty", S "Never", S "Chars", S "Pair", S "Cat", S "Alt", S "Loop", S "Star", S "Plus", S "Opt", S "Repeat", S "spine", S "cat_all", S "chars_node", S "is_figure", S "RegexReader", S "read_regex", S "MARKS", S "LOOSE", S "ROW", S "TIGHT", S "show_sign", S "show_chars", S "show_count", S "show_at", S "show_regex", S "_law_figures", S "_law_pen", S "_law_draw", S "_law_words", S "_law_held", S "_law_spans", S "_law_hex", S "_law_inner", S "_law_shown", S "_law_spelled", S "_law_class", S "_law_heard", S "_law_refused"]
noncomputable abbrev rw0 : OpenLaw := PySem.Challenge.rw_pq0578_01
noncomputable abbrev XtV : Shared → Bool := fun s => xlAt qv [] s && recOk [] s
theorem kpre (w : World) (os : OsState) : topGo treeTable pw w 11 (some (.ref 6)) 12 ⟨boot_heap w.params, #[], boot_drawn, boot_toks, os⟩ (topStub pw) = some ((S0 w os).abs, ⟨denote treeTable c0, c0, ⟨0, 0, 0, 0⟩, fr0⟩) := by
 rewrite [PySem.W.Fast.te15667345088766844465, PySem.W.Fast.te14364793385576792824, PySem.W.Fast.te11892475500146522536]; kernel_rfl
theorem kblock (w : World) (os : OsState) : segRun treeTable pw w 11 (some (.ref 6)) 1 1 (S0 w os).abs (blockOf pw.main.body env0 c0 ⟨0, 0, 0, 0⟩ fr0) = some (.next, (S0 w os).abs, c0, ⟨0, 0, 0, 0⟩) := by
 kernel_rfl
theorem kchain {S S' : World → OsState → SharedT} {a n st M a2 M2 : Nat} {p0 p1 : Pos} {R : World → OsState → Shared} (ea : a + n = a2) (eM : st + M = M2)
  (h : ∀ w : World, (fun os => segRunT treeTable pw w 11 (some (.ref 6)) 1 st (S w os) ⟨(execs (G a n) env0).wrap doneF deadEnd id id, c0, p0, fr0⟩) = fun os => some (.next, S' w os, c0, p1))
  (k : ∀ w os, topRun treeTable pw w 11 (some (.ref 6)) M (S' w os).abs (restOf (pw.main.body.drop a2) env0 c0 p1 fr0) = some (R w os)) (w : World) (os : OsState) :
  topRun treeTable pw w 11 (some (.ref 6)) M2 (S w os).abs (restOf (pw.main.body.drop a) env0 c0 p0 fr0) = some (R w os) := by
 subst ea eM
 have e : pw.main.body.drop a = G a n ++ pw.main.body.drop (a + n) := by
  unfold G
  rw [← List.drop_drop, List.take_append_drop]
 rw [e]
 exact piece_app (segRun_of (congrFun (h w) os)) (k w os)
theorem kend (w : World) (os : OsState) : topRun treeTable pw w 11 (some (.ref 6)) 2 (S23 w os).abs (restOf (pw.main.body.drop 75) env0 c0 ⟨735, 0, 751, 28⟩ fr0) = some (S23 w os).abs := by
 have e : pw.main.body.drop 75 = [] := by kernel_rfl
 rw [e]
 exact piece_nil (by kernel_rfl)
theorem kr23 (w : World) (os : OsState) : topRun treeTable pw w 11 (some (.ref 6)) 189 (S22 w os).abs (restOf (pw.main.body.drop 69) env0 c0 ⟨675, 0, 678, 67⟩ fr0) = some (S23 w os).abs :=
 kchain (S := S22) (S' := S23) (a := 69) (n := 6) (a2 := 75) (st := 187) (M := 2) (R := fun w os => (S23 w os).abs) rfl rfl k23 kend w os
theorem kr22 (w : World) (os : OsState) : topRun treeTable pw w 11 (some (.ref 6)) 631 (S21 w os).abs (restOf (pw.main.body.drop 49) env0 c0 ⟨387, 0, 566, 40⟩ fr0) = some (S23 w os).abs :=
 kchain (S := S21) (S' := S22) (a := 49) (n := 20) (a2 := 69) (st := 442) (M := 189) (R := fun w os => (S23 w os).abs) rfl rfl k22 kr23 w os
theorem kr21 (w : World) (os : OsState) : topRun treeTable pw w 11 (some (.ref 6)) 1392 (S20 w os).abs (restOf (pw.main.body.drop 48) env0 c0 ⟨385, 0, 386, 41⟩ fr0) = some (S23 w os).abs :=
 kchain (S := S20) (S' := S21) (a := 48) (n := 1) (a2 := 49) (st := 761) (M := 631) (R := fun w os => (S23 w os).abs) rfl rfl k21 kr22 w os
theorem kr20 (w : World) (os : OsState) : topRun treeTable pw w 11 (some (.ref 6)) 1816 (S19 w os).abs (restOf (pw.main.body.drop 43) env0 c0 ⟨349, 0, 350, 16⟩ fr0) = some (S23 w os).abs :=
 kchain (S := S19) (S' := S20) (a := 43) (n := 5) (a2 := 48) (st := 424) (M := 1392) (R := fun w os => (S23 w os).abs) rfl rfl k20 kr21 w os
theorem kr19 (w : World) (os : OsState) : topRun treeTable pw w 11 (some (.ref 6)) 2053 (S18 w os).abs (restOf (pw.main.body.drop 42) env0 c0 ⟨347, 0, 348, 17⟩ fr0) = some (S23 w os).abs :=
 kchain (S := S18) (S' := S19) (a := 42) (n := 1) (a2 := 43) (st := 237) (M := 1816) (R := fun w os => (S23 w os).abs) rfl rfl k19 kr20 w os
theorem kr18 (w : World) (os : OsState) : topRun treeTable pw w 11 (some (.ref 6)) 2290 (S17 w os).abs (restOf (pw.main.body.drop 41) env0 c0 ⟨345, 0, 346, 17⟩ fr0) = some (S23 w os).abs :=
 kchain (S := S17) (S' := S18) (a := 41) (n := 1) (a2 := 42) (st := 237) (M := 2053) (R := fun w os => (S23 w os).abs) rfl rfl k18 kr19 w os
theorem kr17 (w : World) (os : OsState) : topRun treeTable pw w 11 (some (.ref 6)) 2527 (S16 w os).abs (restOf (pw.main.body.drop 40) env0 c0 ⟨335, 0, 344, 44⟩ fr0) = some (S23 w os).abs :=
 kchain (S := S16) (S' := S17) (a := 40) (n := 1) (a2 := 41) (st := 237) (M := 2290) (R := fun w os => (S23 w os).abs) rfl rfl k17 kr18 w os
theorem kr16 (w : World) (os : OsState) : topRun treeTable pw w 11 (some (.ref 6)) 2835 (S15 w os).abs (restOf (pw.main.body.drop 39) env0 c0 ⟨333, 0, 334, 16⟩ fr0) = some (S23 w os).abs :=
 kchain (S := S15) (S' := S16) (a := 39) (n := 1) (a2 := 40) (st := 308) (M := 2527) (R := fun w os => (S23 w os).abs) rfl rfl k16 kr17 w os
theorem kr15 (w : World) (os : OsState) : topRun treeTable pw w 11 (some (.ref 6)) 3072 (S14 w os).abs (restOf (pw.main.body.drop 38) env0 c0 ⟨331, 0, 332, 16⟩ fr0) = some (S23 w os).abs :=
 kchain (S := S14) (S' := S15) (a := 38) (n := 1) (a2 := 39) (st := 237) (M := 2835) (R := fun w os => (S23 w os).abs) rfl rfl k15 kr16 w os
theorem kr14 (w : World) (os : OsState) : topRun treeTable pw w 11 (some (.ref 6)) 3309 (S13 w os).abs (restOf (pw.main.body.drop 37) env0 c0 ⟨316, 0, 330, 19⟩ fr0) = some (S23 w os).abs :=
 kchain (S := S13) (S' := S14) (a := 37) (n := 1) (a2 := 38) (st := 237) (M := 3072) (R := fun w os => (S23 w os).abs) rfl rfl k14 kr15 w os
theorem kr13 (w : World) (os : OsState) : topRun treeTable pw w 11 (some (.ref 6)) 3622 (S12 w os).abs (restOf (pw.main.body.drop 36) env0 c0 ⟨308, 0, 315, 46⟩ fr0) = some (S23 w os).abs :=
 kchain (S := S12) (S' := S13) (a := 36) (n := 1) (a2 := 37) (st := 313) (M := 3309) (R := fun w os => (S23 w os).abs) rfl rfl k13 kr14 w os
theorem kr12 (w : World) (os : OsState) : topRun treeTable pw w 11 (some (.ref 6)) 3909 (S11 w os).abs (restOf (pw.main.body.drop 35) env0 c0 ⟨306, 0, 307, 18⟩ fr0) = some (S23 w os).abs :=
 kchain (S := S11) (S' := S12) (a := 35) (n := 1) (a2 := 36) (st := 287) (M := 3622) (R := fun w os => (S23 w os).abs) rfl rfl k12 kr13 w os
theorem kr11 (w : World) (os : OsState) : topRun treeTable pw w 11 (some (.ref 6)) 4354 (S10 w os).abs (restOf (pw.main.body.drop 33) env0 c0 ⟨296, 0, 303, 27⟩ fr0) = some (S23 w os).abs :=
 kchain (S := S10) (S' := S11) (a := 33) (n := 2) (a2 := 35) (st := 445) (M := 3909) (R := fun w os => (S23 w os).abs) rfl rfl k11 kr12 w os
theorem kr10 (w : World) (os : OsState) : topRun treeTable pw w 11 (some (.ref 6)) 4762 (S9 w os).abs (restOf (pw.main.body.drop 23) env0 c0 ⟨160, 0, 266, 25⟩ fr0) = some (S23 w os).abs :=
 kchain (S := S9) (S' := S10) (a := 23) (n := 10) (a2 := 33) (st := 408) (M := 4354) (R := fun w os => (S23 w os).abs) rfl rfl k10 kr11 w os
theorem kr9 (w : World) (os : OsState) : topRun treeTable pw w 11 (some (.ref 6)) 6388 (S8 w os).abs (restOf (pw.main.body.drop 22) env0 c0 ⟨159, 0, 159, 11⟩ fr0) = some (S23 w os).abs :=
 kchain (S := S8) (S' := S9) (a := 22) (n := 1) (a2 := 23) (st := 1626) (M := 4762) (R := fun w os => (S23 w os).abs) rfl rfl k9 kr10 w os
theorem kr8 (w : World) (os : OsState) : topRun treeTable pw w 11 (some (.ref 6)) 6683 (S7 w os).abs (restOf (pw.main.body.drop 21) env0 c0 ⟨158, 0, 158, 13⟩ fr0) = some (S23 w os).abs :=
 kchain (S := S7) (S' := S8) (a := 21) (n := 1) (a2 := 22) (st := 295) (M := 6388) (R := fun w os => (S23 w os).abs) rfl rfl k8 kr9 w os
theorem kr7 (w : World) (os : OsState) : topRun treeTable pw w 11 (some (.ref 6)) 6781 (S6 w os).abs (restOf (pw.main.body.drop 15) env0 c0 ⟨44, 0, 140, 19⟩ fr0) = some (S23 w os).abs :=
 kchain (S := S6) (S' := S7) (a := 15) (n := 6) (a2 := 21) (st := 98) (M := 6683) (R := fun w os => (S23 w os).abs) rfl rfl k7 kr8 w os
theorem kr6 (w : World) (os : OsState) : topRun treeTable pw w 11 (some (.ref 6)) 7498 (S5 w os).abs (restOf (pw.main.body.drop 14) env0 c0 ⟨42, 0, 43, 8⟩ fr0) = some (S23 w os).abs :=
 kchain (S := S5) (S' := S6) (a := 14) (n := 1) (a2 := 15) (st := 717) (M := 6781) (R := fun w os => (S23 w os).abs) rfl rfl k6 kr7 w os
theorem kr5 (w : World) (os : OsState) : topRun treeTable pw w 11 (some (.ref 6)) 7712 (S4 w os).abs (restOf (pw.main.body.drop 13) env0 c0 ⟨31, 0, 41, 29⟩ fr0) = some (S23 w os).abs :=
 kchain (S := S4) (S' := S5) (a := 13) (n := 1) (a2 := 14) (st := 214) (M := 7498) (R := fun w os => (S23 w os).abs) rfl rfl k5 kr6 w os
theorem kr4 (w : World) (os : OsState) : topRun treeTable pw w 11 (some (.ref 6)) 7975 (S3 w os).abs (restOf (pw.main.body.drop 12) env0 c0 ⟨22, 0, 30, 45⟩ fr0) = some (S23 w os).abs :=
 kchain (S := S3) (S' := S4) (a := 12) (n := 1) (a2 := 13) (st := 263) (M := 7712) (R := fun w os => (S23 w os).abs) rfl rfl k4 kr5 w os
theorem kr3 (w : World) (os : OsState) : topRun treeTable pw w 11 (some (.ref 6)) 8267 (S2 w os).abs (restOf (pw.main.body.drop 10) env0 c0 ⟨12, 0, 12, 13⟩ fr0) = some (S23 w os).abs :=
 kchain (S := S2) (S' := S3) (a := 10) (n := 2) (a2 := 12) (st := 292) (M := 7975) (R := fun w os => (S23 w os).abs) rfl rfl k3 kr4 w os
theorem kr2 (w : World) (os : OsState) : topRun treeTable pw w 11 (some (.ref 6)) 8383 (S1 w os).abs (restOf (pw.main.body.drop 9) env0 c0 ⟨11, 0, 11, 12⟩ fr0) = some (S23 w os).abs :=
 kchain (S := S1) (S' := S2) (a := 9) (n := 1) (a2 := 10) (st := 116) (M := 8267) (R := fun w os => (S23 w os).abs) rfl rfl k2 kr3 w os
theorem kr1 (w : World) (os : OsState) : topRun treeTable pw w 11 (some (.ref 6)) 8517 (S0 w os).abs (restOf (pw.main.body.drop 0) env0 c0 ⟨0, 0, 0, 0⟩ fr0) = some (S23 w os).abs :=
 kchain (S := S0) (S' := S1) (a := 0) (n := 9) (a2 := 9) (st := 134) (M := 8383) (R := fun w os => (S23 w os).abs) rfl rfl k1 kr2 w os
noncomputable def H1 (P : Params) : Heap := absHeap (t23 P) 979 {}
theorem krun (w : World) (os : OsState) : topRun treeTable pw w 11 (some (.ref 6)) 8530 ⟨boot_heap w.params, #[], boot_drawn, boot_toks, os⟩ (topStub pw) = some ⟨H1 w.params, #[], {}, 1598, os⟩ := by
 have q : (S23 w os).abs = ⟨H1 w.params, #[], {}, 1598, os⟩ := by kernel_rfl
 rw [← q]
 exact go_top (n := 12) (N := 8518) (kpre w os) (piece_block (n := 1) (N := 8517) (kblock w os) (kr1 w os))
theorem kopen : ∀ w : World, (fencedOpening treeTable pw w 17110).map (fun s => (s.heap, s.gens, s.drawn, s.toks)) = some (boot_heap w.params, Array.mk [], boot_drawn, boot_toks) :=
 boot_open (by kernel_rfl) (by decide) (fun _ => by kernel_rfl)
theorem ksize (w : World) : ((boot_heap w.params).isNs mainGlobals && (#[] : Array GenState).size == 0, (boot_heap w.params).objs.size, (boot_heap w.params).nsMap mainGlobals "__annotations__") = (true, 11, some (.ref 6)) := by
 kernel_rfl
end Mine
end
section
open PySem PySem.W PyProof.Rows
namespace Mine
noncomputable def ZF (w : World) (os : OsState) : Shared := ⟨H1 w.params, #[], {}, 1598, os⟩
theorem l1 (w : World) : staticsOk (importedModules pw.main.body) (boot_heap w.params) (H1 w.params) = true := by kernel_rfl
theorem l2 (w : World) : namesBound pw (H1 w.params) = true := by kernel_rfl
theorem l3 (w : World) (os : OsState) : gensDone (ZF w os) = true := by kernel_rfl
theorem l4 (w : World) : laidKept (boot_heap w.params) (H1 w.params) = true := by kernel_rfl
theorem l5 (w : World) : (fun os => HK.obs (ZF w os)) = fun _ => HK.val w := by kernel_rfl
theorem l6 (w : World) : (fun os => openSeen qv loosev (importedModules pw.main.body) XtV true (ZF w os)) = fun _ => openGood qv loosev := by
 rewrite [PySem.W.Fast.te4187177175401517315]; kernel_rfl
theorem klooks (w : World) : (fun os => ((staticsOk (importedModules pw.main.body) (boot_heap w.params) (H1 w.params) && namesBound pw (H1 w.params) && gensDone (ZF w os) && laidKept (boot_heap w.params) (H1 w.params)),
  openSeen qv loosev (importedModules pw.main.body) XtV true (ZF w os), HK.obs (ZF w os))) = fun _ => (true, openGood qv loosev, HK.val w) := by
 funext os
 rw [l1, l2, l3, l4]
 exact Prod.ext rfl (Prod.ext (congrFun (l6 w) os) (congrFun (l5 w) os))
theorem kleft : LeftO pw qv loosev XtV HK.obs HK.val 17110 true :=
 LeftO.of_pieces (H₀ := boot_heap) (H₁ := H1) (gs₀ := #[]) (gs₁ := #[]) (d₀ := boot_drawn) (d₁ := {}) (k₀ := boot_toks) (k₁ := 1598) (m₀ := 11) (ann := some (.ref 6)) (M := 8530) kopen ksize krun rfl klooks
end Mine
end
section
open PySem PySem.W PyProof.Rows
namespace Mine
noncomputable def dlaw : DefRec := { name := Str.ofString "law", params := fA (mi 74), body := fB (mi 74), scope := fS (mi 74), pos := ⟨735, 0, 751, 28⟩ }
theorem ws : rw0.wellSaid = true := by rewrite [PySem.W.Fast.te9446332074065402090]; kernel_rfl
theorem hdef : defOf qv rw0.row.name = some (dlaw, []) := by kernel_rfl
theorem hprog : rw0.row.prog.theDef rw0.row.name = some (dlaw.params, dlaw.body, dlaw.scope) := by kernel_rfl
theorem hkw : kwWritten? dlaw.params.kwonlyargs dlaw.params.kw_defaults = some [] := by kernel_rfl
theorem hok : (chainsOk qv && opensWell rw0.row.prog && (frees rw0.row.toRowW && rw0.row.within.isEmpty)) = true := by kernel_rfl
theorem hbare : rw0.row.prog.bare := ⟨by kernel_rfl, by kernel_rfl, by kernel_rfl, by kernel_rfl, by kernel_rfl, by decide +kernel⟩
theorem hprom : rw0.row.toRowW.promised := ⟨[.list []], by kernel_rfl, by kernel_rfl⟩
theorem head0 (call : WalkO qv loosev (XL qv []) HK.says rw0.row.toRowW dlaw [] fun f vs => PySem.call f vs) : rw0.Holds :=
 holds_law ws fun said => holds_open (q := qv) (loose := loosev) (Xt := XtV) (XP := XL qv []) (Yf := HK.obs) (Ya := HK.val) (YP := HK.says) (N := 17110) kleft HK.of HK.keeps
  (fun s e => xl_of s (Bool.and_eq_true_iff.mp e).1) XL.keeps hdef hprog hkw (fun s e => recFacts_of (Bool.and_eq_true_iff.mp e).2) rfl said hok hbare hprom call
end Mine
end
section
open PySem PySem.W PyProof.Rows
namespace Mine
inductive V where
 | none
 | bool (b : Bool)
 | int (i : Int)
 | str (s : List Nat)
 | tup (l : List V)
 | lst (l : List V)
 | dict (ks : List (List Nat)) (vs : List V)
 | inst (C : Addr) (ns : List Str) (vs : List V)
 | ref (a : Addr)
 | raw (v : Value)
 | rng (a b : Int)
noncomputable abbrev Led := List (Addr × Obj)
structure Wd where
 w : World
 base : Heap
 mean : ExcName → Option Value
 mg : Str → Option Value
 mb : Str → Option Value
structure WOk (W : Wd) : Prop where
 X : (K W.w.params).In W.base
 T : Top qv loosev W.mean W.mg W.mb W.base
noncomputable def Has (W : Wd) (Z : Led) (a : Addr) (o : Obj) : Prop := W.base.get? a = some o ∨ (a, o) ∈ Z
theorem Has.mono {W : Wd} {Z Z' : Led} {a : Addr} {o : Obj} (h : Has W Z a o) (s : Z ⊆ Z') : Has W Z' a o := h.imp id (fun x => s x)
noncomputable abbrev tupO (vs : Array Value) (n : Nat) : Obj := { cls := .type "tuple", data := .seq vs n }
noncomputable abbrev rngO (a b : Int) (t u z : Tok) : Obj := { cls := .type "range", data := .fields #[.int a t, .int b u, .int 1 z] }
inductive SqD (W : Wd) (Z : Led) (ty : String) (D : List Value → Prop) (v : Value) : Prop
 | mk (a : Addr) (o : Obj) (vs : Array Value) (n : Nat) (e : v = .ref a) (H : Has W Z a o) (c : o.cls = .type ty) (d : o.data = .seq vs n) (q : D vs.toList)
inductive DcD (W : Wd) (Z : Led) (D : List DictEntry → Prop) (v : Value) : Prop
 | mk (a : Addr) (es : List DictEntry) (n : Nat) (e : v = .ref a) (y : (a == sysModules) = false) (H : Has W Z a (dictOf es n)) (q : D es)
inductive InD (W : Wd) (Z : Led) (C : Addr) (D : List DictEntry → Prop) (v : Value) : Prop
 | mk (a dx : Addr) (es : List DictEntry) (n : Nat) (e : v = .ref a) (H : Has W Z a (instObj C dx)) (H2 : Has W Z dx (dictOf es n)) (q : D es)
inductive CnD (A : Value → Prop) (B : List Value → Prop) (us : List Value) : Prop
 | mk (v : Value) (vs : List Value) (e : us = v :: vs) (d : A v) (q : B vs)
mutual
noncomputable def den (W : Wd) (Z : Led) : V → Value → Prop
 | .none, v => v = .none
 | .bool b, v => v = .bool b
 | .int i, v => ∃ t, v = .int i t
 | .str s, v => ∃ t, v = .str ⟨s.toArray⟩ t
 | .tup l, v => SqD W Z "tuple" (denL W Z l) v
 | .lst l, v => SqD W Z "list" (denL W Z l) v
 | .dict ks xs, v => DcD W Z (denD W Z ks xs) v
 | .inst C ns xs, v => InD W Z C (denF W Z ns xs) v
 | .ref a, v => v = .ref a
 | .raw u, v => v = u
 | .rng a b, v => ∃ r t u z, v = .ref r ∧ Has W Z r (rngO a b t u z)
noncomputable def denL (W : Wd) (Z : Led) : List V → List Value → Prop
 | [], vs => vs = []
 | x :: r, vs => CnD (den W Z x) (denL W Z r) vs
noncomputable def denF (W : Wd) (Z : Led) : List Str → List V → List DictEntry → Prop
 | ns, [], es => ns = [] ∧ es = []
 | ns, x :: r, es => ∃ n ns' h t v es', ns = n :: ns' ∧ es = ⟨h, .str n t, v⟩ :: es' ∧ den W Z x v ∧ denF W Z ns' r es'
noncomputable def denD (W : Wd) (Z : Led) : List (List Nat) → List V → List DictEntry → Prop
 | ks, [], es => ks = [] ∧ es = []
 | ks, x :: r, es => ∃ k ks' t v es', ks = k :: ks' ∧ es = ⟨PyData.keyHash W.w.params ⟨k.toArray⟩, .str ⟨k.toArray⟩ t, v⟩ :: es' ∧ den W Z x v ∧ denD W Z ks' r es'
end
mutual
theorem den.mono {W : Wd} {Z Z' : Led} (s : Z ⊆ Z') : ∀ (x : V) {v : Value}, den W Z x v → den W Z' x v
 | .none, _, h => h
 | .bool _, _, h => h
 | .int _, _, h => h
 | .str _, _, h => h
 | .tup l, _, h => by
  simp only [den] at h ⊢
  obtain ⟨a, o, vs, n, e, H, c, d, D⟩ := h
  exact ⟨a, o, vs, n, e, H.mono s, c, d, denL.mono s l D⟩
 | .lst l, _, h => by
  simp only [den] at h ⊢
  obtain ⟨a, o, vs, n, e, H, c, d, D⟩ := h
  exact ⟨a, o, vs, n, e, H.mono s, c, d, denL.mono s l D⟩
 | .dict ks xs, _, h => by
  simp only [den] at h ⊢
  obtain ⟨a, es, n, e, y, H, D⟩ := h
  exact ⟨a, es, n, e, y, H.mono s, denD.mono s ks xs D⟩
 | .inst C ns xs, _, h => by
  simp only [den] at h ⊢
  obtain ⟨a, dx, es, n, e, H, H2, D⟩ := h
  exact ⟨a, dx, es, n, e, H.mono s, H2.mono s, denF.mono s ns xs D⟩
 | .ref _, _, h => h
 | .raw _, _, h => h
 | .rng a b, _, h => by
  simp only [den] at h ⊢
  obtain ⟨r, t, u, z, e, H⟩ := h
  exact ⟨r, t, u, z, e, H.mono s⟩
theorem denL.mono {W : Wd} {Z Z' : Led} (s : Z ⊆ Z') : ∀ (l : List V) {vs : List Value}, denL W Z l vs → denL W Z' l vs
 | [], _, h => h
 | x :: r, _, h => by
  simp only [denL] at h ⊢
  obtain ⟨v, vs', e, d, D⟩ := h
  exact ⟨v, vs', e, den.mono s x d, denL.mono s r D⟩
theorem denF.mono {W : Wd} {Z Z' : Led} (s : Z ⊆ Z') : ∀ (ns : List Str) (xs : List V) {es : List DictEntry}, denF W Z ns xs es → denF W Z' ns xs es
 | _, [], _, h => h
 | ns, x :: r, _, h => by
  simp only [denF] at h ⊢
  obtain ⟨n, ns', hh, t, v, es', e1, e2, d, D⟩ := h
  exact ⟨n, ns', hh, t, v, es', e1, e2, den.mono s x d, denF.mono s ns' r D⟩
theorem denD.mono {W : Wd} {Z Z' : Led} (s : Z ⊆ Z') : ∀ (ks : List (List Nat)) (xs : List V) {es : List DictEntry}, denD W Z ks xs es → denD W Z' ks xs es
 | _, [], _, h => h
 | ks, x :: r, _, h => by
  simp only [denD] at h ⊢
  obtain ⟨k, ks', t, v, es', e1, e2, d, D⟩ := h
  exact ⟨k, ks', t, v, es', e1, e2, den.mono s x d, denD.mono s ks' r D⟩
end
theorem denL_length {W : Wd} {Z : Led} : ∀ {l : List V} {vs : List Value}, denL W Z l vs → vs.length = l.length
 | [], _, h => by simp only [denL] at h; rw [h]; rfl
 | x :: r, _, h => by
  simp only [denL] at h
  obtain ⟨v, vs', rfl, _, D⟩ := h
  rw [List.length_cons, List.length_cons, denL_length D]
theorem denL_get {W : Wd} {Z : Led} : ∀ {l : List V} {vs : List Value}, denL W Z l vs → ∀ (i : Nat) (x : V), l[i]? = some x → ∃ v, vs[i]? = some v ∧ den W Z x v
 | [], _, _, i, x, e => by simp at e
 | y :: r, _, h, i, x, e => by
  simp only [denL] at h
  obtain ⟨v, vs', rfl, d, D⟩ := h
  cases i with
  | zero => simp at e; subst e; exact ⟨v, rfl, d⟩
  | succ i => simp at e; obtain ⟨u, h1, h2⟩ := denL_get D i x e; exact ⟨u, by simpa using h1, h2⟩
theorem denL_append {W : Wd} {Z : Led} : ∀ {l : List V} {vs : List Value} {l2 : List V} {vs2 : List Value}, denL W Z l vs → denL W Z l2 vs2 → denL W Z (l ++ l2) (vs ++ vs2)
 | [], _, _, _, h, h2 => by simp only [denL] at h; subst h; exact h2
 | x :: r, _, _, _, h, h2 => by
  simp only [denL, List.cons_append] at h ⊢
  obtain ⟨v, vs', rfl, d, D⟩ := h
  exact ⟨v, vs' ++ _, rfl, d, denL_append D h2⟩
theorem denL_iff {W : Wd} {Z : Led} : ∀ {l : List V} {vs : List Value}, denL W Z l vs ↔ vs.length = l.length ∧ ∀ (i : Nat) (x : V) (v : Value), l[i]? = some x → vs[i]? = some v → den W Z x v
 | [], vs => by simp [denL]
 | x :: r, vs => by
  simp only [denL]
  constructor
  ·rintro ⟨v, vs', rfl, d, D⟩
   obtain ⟨h1, h2⟩ := denL_iff.mp D
   refine ⟨by simp [h1], fun i y u e1 e2 => ?_⟩
   cases i with
   | zero => simp at e1 e2; subst e1 e2; exact d
   | succ i => simp at e1 e2; exact h2 i y u e1 e2
  ·rintro ⟨h1, h2⟩
   cases vs with
   | nil => simp at h1
   | cons v vs' =>
    exact ⟨v, vs', rfl, h2 0 x v rfl rfl, denL_iff.mpr ⟨by simpa using h1, fun i y u e1 e2 => h2 (i + 1) y u (by simpa using e1) (by simpa using e2)⟩⟩
inductive O where
 | list (l : List V)
 | inst (C : Addr) (ns : List Str) (vs : List V)
 | dict (ks : List (List Nat)) (vs : List V)
 | cell (v : Option V)
 | exc (od : Option Addr)
 | adict (ns : List Str) (vs : List V)
noncomputable abbrev HP := Addr → Option O
noncomputable abbrev Loc := List (Str × V)
noncomputable def HP.set (hp : HP) (a : Addr) (o : O) : HP := fun b => if b = a then some o else hp b
noncomputable abbrev Mut := List (Addr × Addr × Obj)
noncomputable def denO (W : Wd) (Z : Led) : Option V → Option Value → Prop
 | none, o => o = none
 | some v, o => ∃ u, o = some u ∧ den W Z v u
theorem denO.mono {W : Wd} {Z Z' : Led} (s : Z ⊆ Z') : ∀ {x : Option V} {v : Option Value}, denO W Z x v → denO W Z' x v
 | none, _, h => h
 | some _, _, ⟨u, e, d⟩ => ⟨u, e, d.mono s⟩
noncomputable def cellOk (W : Wd) (Z : Led) (a : Addr) (key : Addr) (ob : Obj) : O → Prop
 | .list l => key = a ∧ ∃ vs n, ob = listOf vs n ∧ denL W Z l vs.toList
 | .inst C ns xs => ∃ es n, ob = dictOf es n ∧ (a, instObj C key) ∈ Z ∧ denF W Z ns xs es
 | .dict ks xs => key = a ∧ (a == sysModules) = false ∧ ∃ es n, ob = dictOf es n ∧ denD W Z ks xs es
 | .cell x => key = a ∧ ∃ v, ob.data = .cell v ∧ denO W Z x v
 | .exc od => key = a ∧ ∃ a0, ob = ⟨.ref 95, od, .fields #[a0, .none, .none, .none, .bool false, .none], #[]⟩
 | .adict ns xs => key = a ∧ ∃ es n, ob = dictOf es n ∧ denF W Z ns xs es
theorem cellOk.mono {W : Wd} {Z Z' : Led} (s : Z ⊆ Z') {a key : Addr} {ob : Obj} : ∀ {o : O}, cellOk W Z a key ob o → cellOk W Z' a key ob o
 | .list l, ⟨e, vs, n, e2, D⟩ => ⟨e, vs, n, e2, D.mono s⟩
 | .inst C ns xs, ⟨es, n, e, m, D⟩ => ⟨es, n, e, s m, D.mono s⟩
 | .dict ks xs, ⟨e, y, es, n, e2, D⟩ => ⟨e, y, es, n, e2, D.mono s⟩
 | .cell x, ⟨e, v, e2, D⟩ => ⟨e, v, e2, D.mono s⟩
 | .exc od, h => h
 | .adict ns xs, ⟨e, es, n, e2, D⟩ => ⟨e, es, n, e2, D.mono s⟩
structure Fm where
 W : Wd
 A : Around
 env : Env
 L : Addr
 fenv : List Env
 prot : List (Addr × (Str → Option Value))
 rm : Nat
 top : Bool
noncomputable def ObjNs (o : Obj) (m : Str → Option Value) : Prop := ∃ es ep, o.data = .dict es ep ∧ StrKeys es ∧ ∀ name, nsFind es name = m name
theorem ns_iff {h : Heap} {a : Addr} {m : Str → Option Value} : h.Ns a m ↔ ∃ o, h.get? a = some o ∧ ObjNs o m :=
 ⟨fun ⟨o, es, ep, e, r⟩ => ⟨o, e, es, ep, r⟩, fun ⟨o, e, es, ep, r⟩ => ⟨o, es, ep, e, r⟩⟩
noncomputable def protOk : List (Addr × (Str → Option Value)) → Led → Prop
 | [], fo => fo = []
 | p :: r, fo => ∃ o fo', fo = (p.1, o) :: fo' ∧ ObjNs o p.2 ∧ protOk r fo'
structure FmOk (C : Fm) : Prop where
 wok : WOk C.W
 hk : C.env.scope.kind = .function
 hloc : C.env.locals = C.L
 hgl : C.env.globals = mainGlobals
 hbi : C.env.builtins = builtinsNs
 hfr : C.A.frames = some C.fenv
 hand : C.A.handled = none
 hcur : C.top = true → C.env.frame = some C.L
 htop : C.top = true → ∃ outer, C.fenv = C.env :: outer
 hmem : ∀ env ∈ C.fenv, env.scope.kind = .function ∧ ∃ L', env.frame = some L' ∧ (L' = C.L ∨ L' ∈ C.prot.map (·.1))
 depth : C.A.depth + C.rm < recursionLimit
 units : C.A.units + 8 * C.rm + 100 < cLine
structure RelX (C : Fm) (Z : Led) (hp : HP) (h : Heap) (m : Str → Option Value) (mu : Mut) (fo : Led) : Prop where
 F : Fr C.W.base C.L h m
 N : News C.W.base C.L h (Z ++ (mu.map (·.2) ++ fo))
 nd : ((mu.map (·.2) ++ fo).map (·.1)).Nodup
 dj : ∀ p ∈ Z, p.1 ∉ (mu.map (·.2) ++ fo).map (·.1)
 pr : protOk C.prot fo
 hp : ∀ a o, hp a = some o → ∃ key ob, (a, key, ob) ∈ mu ∧ cellOk C.W Z a key ob o
noncomputable def LocOk (W : Wd) (Z : Led) (lc : Loc) (m : Str → Option Value) : Prop := ∀ x v, lc.lookup x = some v → ∃ u, m x = some u ∧ den W Z v u
inductive Rel (C : Fm) (Z : Led) (lc : Loc) (hp : HP) (h : Heap) : Prop
 | mk (m : Str → Option Value) (mu : Mut) (fo : Led) (X : RelX C Z hp h m mu fo) (l : LocOk C.W Z lc m)
theorem LocOk.mono {W : Wd} {Z Z' : Led} {lc : Loc} {m : Str → Option Value} (x : LocOk W Z lc m) (s : Z ⊆ Z') : LocOk W Z' lc m :=
 fun y v e => let ⟨u, h1, h2⟩ := x y v e; ⟨u, h1, h2.mono s⟩
noncomputable def Same (s s' : Shared) : Prop := ∃ h t, s' = { s with heap := h, toks := t }
theorem Same.refl (s : Shared) : Same s s := ⟨s.heap, s.toks, rfl⟩
theorem Same.trans {a b c : Shared} (x : Same a b) (y : Same b c) : Same a c := by
 obtain ⟨h, t, rfl⟩ := x
 obtain ⟨h', t', rfl⟩ := y
 exact ⟨h', t', rfl⟩
theorem Same.mk' (s : Shared) (h : Heap) (t : Nat) : Same s { s with heap := h, toks := t } := ⟨h, t, rfl⟩
noncomputable def ExObj (C : Fm) (led : Led) (e : Addr) (h : Heap) : Prop :=
 ∃ oe vs a0, h.get? e = some oe ∧ oe.cls = .ref 95 ∧ oe.data = .fields vs ∧ vs[0]? = some a0 ∧ C.W.base.get? e = none ∧ (∀ p ∈ led, p.1 ≠ e) ∧
  (vs[1]? = some .none ∨ ∃ T oT ts fl, vs[1]? = some (.ref T) ∧ C.W.base.get? T = none ∧ (∀ p ∈ led, p.1 ≠ T) ∧ T ≠ e ∧ h.get? T = some oT ∧ oT.data = .fields ts ∧ ts[3]? = some fl ∧
   (fl = .none ∨ ∃ f, C.env.frame = some f ∧ fl = rawInt f))
noncomputable def Exc (C : Fm) (Z : Led) (hp : HP) (e : Addr) (h : Heap) : Prop := ∃ m mu fo, RelX C Z hp h m mu fo ∧ ExObj C (Z ++ (mu.map (·.2) ++ fo)) e h
noncomputable def NK {α β : Type} (C : Fm) (rel : Led → β → α → Prop) (k : β → Loc → HP → Prop) (Z : Led) (s : Shared) (Q : α → Shared → Prop) : Prop :=
 ∀ Z' b a lc' hp' s', Z ⊆ Z' → rel Z' b a → Rel C Z' lc' hp' s'.heap → Same s s' → k b lc' hp' → Q a s'
noncomputable def XK (C : Fm) (x : HP → Prop) (Z : Led) (s : Shared) (E : Value → Shared → Prop) : Prop :=
 ∀ Z' e hp' s', Z ⊆ Z' → Exc C Z' hp' e s'.heap → Same s s' → x hp' → E (.ref e) s'
theorem sub_refl (Z : Led) : Z ⊆ Z := fun _ h => h
theorem NK.step {α β : Type} {C : Fm} {rel : Led → β → α → Prop} {k : β → Loc → HP → Prop} {Z Z1 : Led} {s s1 : Shared} {Q : α → Shared → Prop} (h : NK C rel k Z s Q) (z : Z ⊆ Z1) (y : Same s s1) : NK C rel k Z1 s1 Q :=
 fun Z' b a lc' hp' s' z' r R y' kk => h Z' b a lc' hp' s' (fun _ p => z' (z p)) r R (y.trans y') kk
theorem XK.step {C : Fm} {x : HP → Prop} {Z Z1 : Led} {s s1 : Shared} {E : Value → Shared → Prop} (h : XK C x Z s E) (z : Z ⊆ Z1) (y : Same s s1) : XK C x Z1 s1 E :=
 fun Z' e hp' s' z' r y' xx => h Z' e hp' s' (fun _ p => z' (z p)) r (y.trans y') xx
noncomputable def Tri {α β : Type} (C : Fm) (rel : Led → β → α → Prop) (vs : List V) (f : List Value → Sem α) (k : β → Loc → HP → Prop) (x : HP → Prop) (lc : Loc) (hp : HP) : Prop :=
 ∀ Z s Q E us, FmOk C → Rel C Z lc hp s.heap → denL C.W Z vs us → NK C rel k Z s Q → XK C x Z s E → wpAny (model pw C.W.w) C.A (f us) Q E s
inductive Fl where
 | next | brk | cont
 | ret (v : V)
noncomputable def relF (C : Fm) (Z : Led) : Fl → Flow → Prop
 | .next, f => f = .next
 | .brk, f => f = .brk
 | .cont, f => f = .cont
 | .ret v, f => ∃ u, f = .ret u ∧ den C.W Z v u
noncomputable def SE (C : Fm) (e : PySem.Expr) (k : V → Loc → HP → Prop) (x : HP → Prop) (lc : Loc) (hp : HP) : Prop := Tri C (den C.W) [] (fun _ => eval e C.env) k x lc hp
noncomputable def ST (C : Fm) (e : PySem.Expr) (wh : Sem Value) (k : Bool → Loc → HP → Prop) (x : HP → Prop) (lc : Loc) (hp : HP) : Prop := Tri C (fun _ (b a : Bool) => a = b) [] (fun _ => isTrue e C.env wh) k x lc hp
noncomputable def SX (C : Fm) (st : Stmt) (k : Fl → Loc → HP → Prop) (x : HP → Prop) (lc : Loc) (hp : HP) : Prop := Tri C (relF C) [] (fun _ => exec st C.env) k x lc hp
noncomputable def SXs (C : Fm) (l : List Stmt) (k : Fl → Loc → HP → Prop) (x : HP → Prop) (lc : Loc) (hp : HP) : Prop := Tri C (relF C) [] (fun _ => execs l C.env) k x lc hp
noncomputable def SL (C : Fm) (l : List PySem.Expr) (pos : Pos) (k : List V → Loc → HP → Prop) (x : HP → Prop) (lc : Loc) (hp : HP) : Prop := Tri C (denL C.W) [] (fun _ => spliced (backTo pos (starEach l C.env))) k x lc hp
noncomputable def OpBin (C : Fm) (op : Operator) (a b : V) (k : V → Loc → HP → Prop) (x : HP → Prop) (lc : Loc) (hp : HP) : Prop := Tri C (den C.W) [a, b] (fun us => binaryOp op (us.getD 0 .none) (us.getD 1 .none)) k x lc hp
noncomputable def OpCmp (C : Fm) (op : CmpOp) (a b : V) (k : V → Loc → HP → Prop) (x : HP → Prop) (lc : Loc) (hp : HP) : Prop := Tri C (den C.W) [a, b] (fun us => compareOp op (us.getD 0 .none) (us.getD 1 .none)) k x lc hp
noncomputable def OpUn (C : Fm) (op : UnaryOp) (a : V) (k : V → Loc → HP → Prop) (x : HP → Prop) (lc : Loc) (hp : HP) : Prop := Tri C (den C.W) [a] (fun us => unaryOp op (us.getD 0 .none)) k x lc hp
noncomputable def OpTruth (C : Fm) (a : V) (k : Bool → Loc → HP → Prop) (x : HP → Prop) (lc : Loc) (hp : HP) : Prop := Tri C (fun _ (b a : Bool) => a = b) [a] (fun us => truthy (us.getD 0 .none)) k x lc hp
noncomputable def OpAttr (C : Fm) (a : V) (n : Str) (k : V → Loc → HP → Prop) (x : HP → Prop) (lc : Loc) (hp : HP) : Prop := Tri C (den C.W) [a] (fun us => getAttr (us.getD 0 .none) n true) k x lc hp
noncomputable def OpSub (C : Fm) (value slice : PySem.Expr) (a b : V) (k : V → Loc → HP → Prop) (x : HP → Prop) (lc : Loc) (hp : HP) : Prop := Tri C (den C.W) [a, b] (fun us => subscriptTail value slice (us.getD 0 .none) (us.getD 1 .none)) k x lc hp
noncomputable def OpSetAttr (C : Fm) (a : V) (n : Str) (b : V) (k : Unit → Loc → HP → Prop) (x : HP → Prop) (lc : Loc) (hp : HP) : Prop := Tri C (fun _ (_ _ : Unit) => True) [a, b] (fun us => setAttr (us.getD 0 .none) n (us.getD 1 .none)) k x lc hp
noncomputable def OpSetItem (C : Fm) (a b c : V) (k : Unit → Loc → HP → Prop) (x : HP → Prop) (lc : Loc) (hp : HP) : Prop := Tri C (fun _ (_ _ : Unit) => True) [a, b, c] (fun us => setItem (us.getD 0 .none) (us.getD 1 .none) (us.getD 2 .none)) k x lc hp
noncomputable def OpAssign (C : Fm) (t : PySem.Expr) (a : V) (k : Unit → Loc → HP → Prop) (x : HP → Prop) (lc : Loc) (hp : HP) : Prop := Tri C (fun _ (_ _ : Unit) => True) [a] (fun us => assign t C.env (us.getD 0 .none)) k x lc hp
noncomputable def OpStore (C : Fm) (n : Str) (a : V) (k : Unit → Loc → HP → Prop) (x : HP → Prop) (lc : Loc) (hp : HP) : Prop := Tri C (fun _ (_ _ : Unit) => True) [a] (fun us => storeName C.env n (us.getD 0 .none)) k x lc hp
noncomputable def OpNewTup (C : Fm) (l : List V) (k : V → Loc → HP → Prop) (x : HP → Prop) (lc : Loc) (hp : HP) : Prop := Tri C (den C.W) l (fun us => newTuple us) k x lc hp
noncomputable def OpNewList (C : Fm) (l : List V) (k : V → Loc → HP → Prop) (x : HP → Prop) (lc : Loc) (hp : HP) : Prop := Tri C (den C.W) l (fun us => newList us) k x lc hp
noncomputable def OpCall (C : Fm) (f : V) (l : List V) (k : V → Loc → HP → Prop) (x : HP → Prop) (lc : Loc) (hp : HP) : Prop := Tri C (den C.W) (f :: l) (fun us => call (us.getD 0 .none) (us.drop 1)) k x lc hp
noncomputable def OpMeth (C : Fm) (a : V) (n : Str) (k : V × List V → Loc → HP → Prop) (x : HP → Prop) (lc : Loc) (hp : HP) : Prop :=
 ∀ pl : Sem Bool, Tri C (fun Z (p : V × List V) (q : Value × List Value) => den C.W Z p.1 q.1 ∧ denL C.W Z p.2 q.2) [a] (fun us => getMethod (us.getD 0 .none) n pl) k x lc hp
theorem Tri.mono {α β : Type} {C : Fm} {rel : Led → β → α → Prop} {vs : List V} {f : List Value → Sem α} {k k' : β → Loc → HP → Prop} {x x' : HP → Prop} {lc : Loc} {hp : HP} (h : Tri C rel vs f k x lc hp) (hk : ∀ b lc hp, k b lc hp → k' b lc hp) (hx : ∀ hp, x hp → x' hp) :
  Tri C rel vs f k' x' lc hp := fun Z s Q E us ok R d n y => h Z s Q E us ok R d (fun Z' b a lc' hp' s' z r R' y' kk => n Z' b a lc' hp' s' z r R' y' (hk _ _ _ kk)) fun Z' e hp' s' z r y' xx => y Z' e hp' s' z r y' (hx _ xx)
theorem Rel.weaken {C : Fm} {Z : Led} {lc lc' : Loc} {hp hp' : HP} {h : Heap} (R : Rel C Z lc hp h) (hl : ∀ x v, lc'.lookup x = some v → lc.lookup x = some v) (hh : ∀ a o, hp' a = some o → hp a = some o) : Rel C Z lc' hp' h := by
 obtain ⟨m, mu, fo, X, l⟩ := R
 exact ⟨m, mu, fo, ⟨X.F, X.N, X.nd, X.dj, X.pr, fun a o e => X.hp a o (hh a o e)⟩, fun x v e => l x v (hl x v e)⟩
theorem Tri.weaken {α β : Type} {C : Fm} {rel : Led → β → α → Prop} {vs : List V} {f : List Value → Sem α} {k : β → Loc → HP → Prop} {x : HP → Prop} {lc lc' : Loc} {hp hp' : HP} (h : Tri C rel vs f k x lc' hp')
  (hl : ∀ x v, lc'.lookup x = some v → lc.lookup x = some v) (hh : ∀ a o, hp' a = some o → hp a = some o) : Tri C rel vs f k x lc hp :=
 fun Z s Q E us ok R d n y => h Z s Q E us ok (R.weaken hl hh) d n y
end Mine
end
section
open PySem PySem.W PyProof.Rows PySem.Calls
namespace Mine
section
variable {C : Fm} {x : HP → Prop} {lc : Loc} {hp : HP}
theorem SXs.nil {k : Fl → Loc → HP → Prop} (h : k .next lc hp) : SXs C [] k x lc hp := by
 intro Z s Q E us ok R d n y
 exact wpAny_execs_nil (n Z .next .next lc hp s (sub_refl Z) rfl R (Same.refl s) h)
theorem SXs.cons {st : Stmt} {r : List Stmt} {k : Fl → Loc → HP → Prop}
  (h : SX C st (fun f lc hp => match f with | .next => SXs C r k x lc hp | f => k f lc hp) x lc hp) : SXs C (st :: r) k x lc hp := by
 intro Z s Q E us ok R d n y
 refine wpAny_execs_cons (h Z s _ _ us ok R d ?_ y)
 intro Z1 b a lc1 hp1 s1 z1 r1 R1 e1 h1
 cases b with
 | next => cases r1; exact h1 Z1 s1 _ _ us ok R1 (by simp only [denL] at d ⊢; exact d) (n.step z1 e1) (y.step z1 e1)
 | brk => cases r1; exact n Z1 .brk _ _ _ s1 z1 rfl R1 e1 h1
 | cont => cases r1; exact n Z1 .cont _ _ _ s1 z1 rfl R1 e1 h1
 | ret v => obtain ⟨u, rfl, du⟩ := r1; exact n Z1 (.ret v) _ _ _ s1 z1 ⟨u, rfl, du⟩ R1 e1 h1
theorem SX.ret {e : PySem.Expr} {pos : Pos} {k : Fl → Loc → HP → Prop} (h : SE C e (fun v lc hp => k (.ret v) lc hp) x lc hp) : SX C (.Return (some e) pos) k x lc hp := by
 intro Z s Q E us ok R d n y
 exact wpAny_Return_some (h Z s _ _ us ok R d (fun Z1 b a lc1 hp1 s1 z1 r1 R1 e1 h1 => n Z1 (.ret b) _ _ _ s1 z1 ⟨a, rfl, r1⟩ R1 e1 h1) y)
theorem SX.expr {e : PySem.Expr} {pos : Pos} {k : Fl → Loc → HP → Prop} (h : SE C e (fun v lc hp => k .next lc hp) x lc hp)
  (h1 : interactive C.env = false) (h2 : swapsWith e none pos.line C.env = pure false) : SX C (.Expr e pos) k x lc hp := by
 intro Z s Q E us ok R d n y
 exact wpAny_Expr_any (h Z s _ _ us ok R d (fun Z1 b a lc1 hp1 s1 z1 r1 R1 e1 h1 => n Z1 .next _ _ _ s1 z1 rfl R1 e1 h1) y) h1 h2
theorem SX.if_ {t : PySem.Expr} {b o : List Stmt} {pos : Pos} {k : Fl → Loc → HP → Prop}
  (h : ST C t (eval t C.env) (fun c lc hp => if c = true then SXs C b k x lc hp else SXs C o k x lc hp) x lc hp) : SX C (.If t b o pos) k x lc hp := by
 intro Z s Q E us ok R d n y
 refine wpAny_If (h Z s _ _ us ok R d ?_ y)
 intro Z1 c a lc1 hp1 s1 z1 r1 R1 e1 h1
 subst r1
 cases a with
 | true => exact h1 Z1 s1 _ _ us ok R1 (by simp only [denL] at d ⊢; exact d) (n.step z1 e1) (y.step z1 e1)
 | false => exact h1 Z1 s1 _ _ us ok R1 (by simp only [denL] at d ⊢; exact d) (n.step z1 e1) (y.step z1 e1)
theorem SX.assign {n : Str} {p pos : Pos} {e : PySem.Expr} {k : Fl → Loc → HP → Prop} (h : SE C e (fun v lc hp => OpStore C n v (fun _ lc hp => k .next lc hp) x lc hp) x lc hp)
  (h2 : swapsWith e (some (.Name n p)) pos.line C.env = pure false) : SX C (.Assign [.Name n p] e pos) k x lc hp := by
 intro Z s Q E us ok R d nn y
 refine wpAny_Assign_Name (h Z s _ _ us ok R d ?_ y) h2
 intro Z1 v a lc1 hp1 s1 z1 r1 R1 e1 h1
 exact h1 Z1 s1 _ _ [a] ok R1 ⟨a, [], rfl, r1, rfl⟩ (fun Z2 b u lc2 hp2 s2 z2 r2 R2 e2 h2 => nn Z2 .next _ _ _ s2 (fun _ p => z2 (z1 p)) rfl R2 (e1.trans e2) h2) (y.step z1 e1)
theorem SX.assignTup {elts : List PySem.Expr} {kk : Nat} {p pos : Pos} {e : PySem.Expr} {k : Fl → Loc → HP → Prop} (h : SE C e (fun v lc hp => OpAssign C (.Tuple elts kk p) v (fun _ lc hp => k .next lc hp) x lc hp) x lc hp)
  (h1 : swapsWithSole [.Tuple elts kk p] e pos.line C.env = pure false) (h2 : swappedStores [.Tuple elts kk p] e C.env = pure none) : SX C (.Assign [.Tuple elts kk p] e pos) k x lc hp := by
 intro Z s Q E us ok R d nn y
 refine Assign_Tuple (h Z s _ _ us ok R d ?_ y) h1 h2
 intro Z1 v a lc1 hp1 s1 z1 r1 R1 e1 h1
 exact h1 Z1 s1 _ _ [a] ok R1 ⟨a, [], rfl, r1, rfl⟩ (fun Z2 b u lc2 hp2 s2 z2 r2 R2 e2 h2 => nn Z2 .next _ _ _ s2 (fun _ p => z2 (z1 p)) rfl R2 (e1.trans e2) h2) (y.step z1 e1)
theorem SX.assignAttr {o : PySem.Expr} {n : Str} {p pos : Pos} {e : PySem.Expr} {k : Fl → Loc → HP → Prop}
  (h : SE C e (fun v lc hp => SE C o (fun ov lc hp => OpSetAttr C ov n v (fun _ lc hp => k .next lc hp) x lc hp) x lc hp) x lc hp)
  (h2 : swapsWith e (some (.Attribute o n p)) pos.line C.env = pure false) : SX C (.Assign [.Attribute o n p] e pos) k x lc hp := by
 intro Z s Q E us ok R d nn y
 refine plainObj_wpAny_Assign_Attribute (h Z s _ _ us ok R d ?_ y) h2
 intro Z1 v a lc1 hp1 s1 z1 r1 R1 e1 h1
 refine h1 Z1 s1 _ _ [] ok R1 rfl ?_ (y.step z1 e1)
 intro Z2 ov a2 lc2 hp2 s2 z2 r2 R2 e2 h2
 refine h2 Z2 s2 _ _ [a2, a] ok R2 ⟨a2, [a], rfl, r2, a, [], rfl, r1.mono z2, rfl⟩ ?_ ((y.step z1 e1).step z2 e2)
 exact fun Z3 b u lc3 hp3 s3 z3 r3 R3 e3 h3 => nn Z3 .next _ _ _ s3 (fun _ p => z3 (z2 (z1 p))) rfl R3 ((e1.trans e2).trans e3) h3
theorem SX.assignSub {o i : PySem.Expr} {p pos : Pos} {e : PySem.Expr} {k : Fl → Loc → HP → Prop}
  (h : SE C e (fun v lc hp => SE C o (fun ov lc hp => SE C i (fun iv lc hp => OpSetItem C ov iv v (fun _ lc hp => k .next lc hp) x lc hp) x lc hp) x lc hp) x lc hp)
  (h2 : swapsWith e (some (.Subscript o i p)) pos.line C.env = pure false) : SX C (.Assign [.Subscript o i p] e pos) k x lc hp := by
 intro Z s Q E us ok R d nn y
 refine wpAny_Assign_Subscript (h Z s _ _ us ok R d ?_ y) h2
 intro Z1 v a lc1 hp1 s1 z1 r1 R1 e1 h1
 refine h1 Z1 s1 _ _ [] ok R1 rfl ?_ (y.step z1 e1)
 intro Z2 ov a2 lc2 hp2 s2 z2 r2 R2 e2 h2
 refine h2 Z2 s2 _ _ [] ok R2 rfl ?_ ((y.step z1 e1).step z2 e2)
 intro Z3 iv a3 lc3 hp3 s3 z3 r3 R3 e3 h3
 refine h3 Z3 s3 _ _ [a2, a3, a] ok R3 ⟨a2, [a3, a], rfl, r2.mono z3, a3, [a], rfl, r3, a, [], rfl, r1.mono (fun _ p => z3 (z2 p)), rfl⟩ ?_ (((y.step z1 e1).step z2 e2).step z3 e3)
 exact fun Z4 b u lc4 hp4 s4 z4 r4 R4 e4 h4 => nn Z4 .next _ _ _ s4 (fun _ p => z4 (z3 (z2 (z1 p)))) rfl R4 (((e1.trans e2).trans e3).trans e4) h4
variable {k : V → Loc → HP → Prop}
theorem SE.nameL {n : Str} {pos : Pos} {v : V} (hl : C.env.scope.names.lookup n = some .local) (hv : lc.lookup n = some v) (h : k v lc hp) (hd : (n == ("__debug__" : Str)) = false) : SE C (.Name n pos) k x lc hp := by
 intro Z s Q E us ok R d nn y
 obtain ⟨m, mu, fo, X, l⟩ := id R
 obtain ⟨u, hu, du⟩ := l n v hv
 exact wpAny_Name (wpAny_loadName_local ok.hk hl (ok.hloc ▸ X.F.ns) hu (nn Z v u lc hp s (sub_refl Z) du R (Same.refl s) h)) hd
theorem mgE {W : Wd} (ok : WOk W) {n : Str} {v : Value} (e : nsIn (K W.w.params) mainGlobals n = some (some v)) : W.mg n = some v := mg_of ok.X ok.T.g e
theorem SE.nameG {n : Str} {pos : Pos} {v : V} {u : Value} (hl : C.env.scope.names.lookup n = some .globalImplicit) (hv : nsIn (K C.W.w.params) mainGlobals n = some (some u)) (du : ∀ Z, den C.W Z v u) (h : k v lc hp) (hd : (n == ("__debug__" : Str)) = false) : SE C (.Name n pos) k x lc hp := by
 intro Z s Q E us ok R d nn y
 obtain ⟨m, mu, fo, X, l⟩ := id R
 exact Name_function_global ok.hk hl (loadGlobal_global (ok.hgl ▸ ok.wok.T.g.keeps X.F.keep) (mgE ok.wok hv) (nn Z v u lc hp s (sub_refl Z) (du Z) R (Same.refl s) h)) hd
theorem SE.nameB {n : Str} {pos : Pos} {u : Value} (hl : C.env.scope.names.lookup n = some .globalImplicit) (hv : nsIn (K C.W.w.params) mainGlobals n = some none) (hb : bootBuiltins n = some u) (hn : n ≠ "__name__") (h : k (.raw u) lc hp) (hd : (n == ("__debug__" : Str)) = false) : SE C (.Name n pos) k x lc hp := by
 intro Z s Q E us ok R d nn y
 obtain ⟨m, mu, fo, X, l⟩ := id R
 exact Name_function_global ok.hk hl (loadGlobal_builtin (ok.hgl ▸ ok.wok.T.g.keeps X.F.keep) (mg_none_of ok.wok.X ok.wok.T.g hv) (ok.hbi ▸ ok.wok.T.b.keeps X.F.keep) ((ok.wok.T.builtins n hn).trans hb)
  (nn Z (.raw u) u lc hp s (sub_refl Z) rfl R (Same.refl s) h)) hd
theorem SE.int {i : Int} {kk : Nat} {pos : Pos} (h : k (.int i) lc hp) : SE C (.Constant (.int i) kk pos) k x lc hp := by
 intro Z s Q E us ok R d nn y
 exact wpAny_Constant_int (nn Z (.int i) _ lc hp _ (sub_refl Z) ⟨_, rfl⟩ R (Same.mk' ..) h)
theorem SE.str {i : Str} {l : List Nat} {kk : Nat} {pos : Pos} (e : i.cps.toList = l) (h : k (.str l) lc hp) : SE C (.Constant (.str i) kk pos) k x lc hp := by
 intro Z s Q E us ok R d nn y
 subst e
 exact Calls.Constant_str (nn Z (.str _) _ lc hp _ (sub_refl Z) ⟨_, rfl⟩ R (Same.mk' ..) h)
theorem SE.bool {b : Bool} {kk : Nat} {pos : Pos} (h : k (.bool b) lc hp) : SE C (.Constant (.bool b) kk pos) k x lc hp := by
 intro Z s Q E us ok R d nn y
 exact wpAny_Constant_bool (nn Z (.bool b) _ lc hp _ (sub_refl Z) rfl R (Same.refl s) h)
theorem SE.none {kk : Nat} {pos : Pos} (h : k .none lc hp) : SE C (.Constant .none kk pos) k x lc hp := by
 intro Z s Q E us ok R d nn y
 exact wpAny_Constant_none (nn Z .none _ lc hp _ (sub_refl Z) rfl R (Same.refl s) h)
theorem SE.bin {l r : PySem.Expr} {op : Operator} {pos : Pos} (h : SE C l (fun a lc hp => SE C r (fun b lc hp => OpBin C op a b k x lc hp) x lc hp) x lc hp) : SE C (.BinOp l op r pos) k x lc hp := by
 intro Z s Q E us ok R d nn y
 refine wpAny_BinOp (h Z s _ _ us ok R d ?_ y)
 intro Z1 v a lc1 hp1 s1 z1 r1 R1 e1 h1
 refine h1 Z1 s1 _ _ [] ok R1 rfl ?_ (y.step z1 e1)
 intro Z2 ov a2 lc2 hp2 s2 z2 r2 R2 e2 h2
 exact h2 Z2 s2 _ _ [a, a2] ok R2 ⟨a, [a2], rfl, r1.mono z2, a2, [], rfl, r2, rfl⟩ ((nn.step z1 e1).step z2 e2) ((y.step z1 e1).step z2 e2)
theorem SE.un {r : PySem.Expr} {op : UnaryOp} {pos : Pos} (h : SE C r (fun b lc hp => OpUn C op b k x lc hp) x lc hp) : SE C (.UnaryOp op r pos) k x lc hp := by
 intro Z s Q E us ok R d nn y
 refine wpAny_UnaryOp (h Z s _ _ us ok R d ?_ y)
 intro Z1 v a lc1 hp1 s1 z1 r1 R1 e1 h1
 exact h1 Z1 s1 _ _ [a] ok R1 ⟨a, [], rfl, r1, rfl⟩ (nn.step z1 e1) (y.step z1 e1)
theorem SE.cmp {l r : PySem.Expr} {op : CmpOp} {pos : Pos} (h : SE C l (fun a lc hp => SE C r (fun b lc hp => OpCmp C op a b k x lc hp) x lc hp) x lc hp) (hm : behindInMarks op r = false) : SE C (.Compare l [op] [r] pos) k x lc hp := by
 intro Z s Q E us ok R d nn y
 refine wpAny_Compare1 (h Z s _ _ us ok R d ?_ y) hm
 intro Z1 v a lc1 hp1 s1 z1 r1 R1 e1 h1
 refine h1 Z1 s1 _ _ [] ok R1 rfl ?_ (y.step z1 e1)
 intro Z2 ov a2 lc2 hp2 s2 z2 r2 R2 e2 h2
 exact h2 Z2 s2 _ _ [a, a2] ok R2 ⟨a, [a2], rfl, r1.mono z2, a2, [], rfl, r2, rfl⟩ ((nn.step z1 e1).step z2 e2) ((y.step z1 e1).step z2 e2)
theorem SE.ifexp {t a b : PySem.Expr} {pos : Pos} (h : ST C t (eval t C.env) (fun c lc hp => if c = true then SE C a k x lc hp else SE C b k x lc hp) x lc hp) : SE C (.IfExp t a b pos) k x lc hp := by
 intro Z s Q E us ok R d nn y
 refine wpAny_IfExp (h Z s _ _ us ok R d ?_ y)
 intro Z1 c a lc1 hp1 s1 z1 r1 R1 e1 h1
 subst r1
 cases a with
 | true => exact h1 Z1 s1 _ _ [] ok R1 rfl (nn.step z1 e1) (y.step z1 e1)
 | false => exact h1 Z1 s1 _ _ [] ok R1 rfl (nn.step z1 e1) (y.step z1 e1)
theorem SE.and {e₁ e₂ : PySem.Expr} {r : List PySem.Expr} {pos : Pos} (h : SE C e₁ (fun a lc hp => OpTruth C a (fun c lc hp => if c = true then SE C (.BoolOp .And (e₂ :: r) pos) k x lc hp else k a lc hp) x lc hp) x lc hp) : SE C (.BoolOp .And (e₁ :: e₂ :: r) pos) k x lc hp := by
 intro Z s Q E us ok R d nn y
 refine BoolOp_and (h Z s _ _ us ok R d ?_ y)
 intro Z1 v a lc1 hp1 s1 z1 r1 R1 e1 h1
 refine h1 Z1 s1 _ _ [a] ok R1 ⟨a, [], rfl, r1, rfl⟩ ?_ (y.step z1 e1)
 intro Z2 c b lc2 hp2 s2 z2 r2 R2 e2 h2
 subst r2
 cases b with
 | true => exact h2 Z2 s2 _ _ [] ok R2 rfl ((nn.step z1 e1).step z2 e2) ((y.step z1 e1).step z2 e2)
 | false => exact nn Z2 v a _ _ s2 (fun _ p => z2 (z1 p)) (r1.mono z2) R2 (e1.trans e2) h2
theorem SE.or {e₁ e₂ : PySem.Expr} {r : List PySem.Expr} {pos : Pos} (h : SE C e₁ (fun a lc hp => OpTruth C a (fun c lc hp => if c = true then k a lc hp else SE C (.BoolOp .Or (e₂ :: r) pos) k x lc hp) x lc hp) x lc hp) : SE C (.BoolOp .Or (e₁ :: e₂ :: r) pos) k x lc hp := by
 intro Z s Q E us ok R d nn y
 refine BoolOp_or (h Z s _ _ us ok R d ?_ y)
 intro Z1 v a lc1 hp1 s1 z1 r1 R1 e1 h1
 refine h1 Z1 s1 _ _ [a] ok R1 ⟨a, [], rfl, r1, rfl⟩ ?_ (y.step z1 e1)
 intro Z2 c b lc2 hp2 s2 z2 r2 R2 e2 h2
 subst r2
 cases b with
 | false => exact h2 Z2 s2 _ _ [] ok R2 rfl ((nn.step z1 e1).step z2 e2) ((y.step z1 e1).step z2 e2)
 | true => exact nn Z2 v a _ _ s2 (fun _ p => z2 (z1 p)) (r1.mono z2) R2 (e1.trans e2) h2
theorem SE.bool1 {op : BoolOp} {e : PySem.Expr} {pos : Pos} (h : SE C e k x lc hp) : SE C (.BoolOp op [e] pos) k x lc hp := h
theorem SE.attr {e : PySem.Expr} {n : Str} {pos : Pos} (h : SE C e (fun a lc hp => OpAttr C a n k x lc hp) x lc hp)
  (h2 : eval (.Attribute e n pos) C.env = (do let o ← eval e C.env; standAt pos.atName; let r ← holding [o] (getAttr o n true); letTemporaryGo e o r; pure r)) : SE C (.Attribute e n pos) k x lc hp := by
 intro Z s Q E us ok R d nn y
 refine Attribute_any_ (h Z s _ _ us ok R d ?_ y) h2
 intro Z1 v a lc1 hp1 s1 z1 r1 R1 e1 h1
 exact h1 Z1 s1 _ _ [a] ok R1 ⟨a, [], rfl, r1, rfl⟩ (nn.step z1 e1) (y.step z1 e1)
theorem SE.sub {a b : PySem.Expr} {pos : Pos} (h : SE C a (fun v lc hp => SE C b (fun i lc hp => OpSub C a b v i k x lc hp) x lc hp) x lc hp) : SE C (.Subscript a b pos) k x lc hp := by
 intro Z s Q E us ok R d nn y
 refine Subscript_ (h Z s _ _ us ok R d ?_ y)
 intro Z1 v a lc1 hp1 s1 z1 r1 R1 e1 h1
 refine h1 Z1 s1 _ _ [] ok R1 rfl ?_ (y.step z1 e1)
 intro Z2 ov a2 lc2 hp2 s2 z2 r2 R2 e2 h2
 exact h2 Z2 s2 _ _ [a, a2] ok R2 ⟨a, [a2], rfl, r1.mono z2, a2, [], rfl, r2, rfl⟩ ((nn.step z1 e1).step z2 e2) ((y.step z1 e1).step z2 e2)
theorem SL.nil {pos : Pos} {k : List V → Loc → HP → Prop} (h : k [] lc hp) : SL C [] pos k x lc hp := by
 intro Z s Q E us ok R d nn y
 exact spliced_none (nn Z [] [] lc hp s (sub_refl Z) rfl R (Same.refl s) h)
theorem SL.cons {e : PySem.Expr} {r : List PySem.Expr} {pos : Pos} {k : List V → Loc → HP → Prop} (h : SE C e (fun v lc hp => SL C r pos (fun vs lc hp => k (v :: vs) lc hp) x lc hp) x lc hp)
  (h2 : starEach (e :: r) C.env = (false, eval e C.env) :: starEach r C.env) : SL C (e :: r) pos k x lc hp := by
 intro Z s Q E us ok R d nn y
 refine spliced_more (h Z s _ _ us ok R d ?_ y) h2
 intro Z1 v a lc1 hp1 s1 z1 r1 R1 e1 h1
 refine h1 Z1 s1 _ _ [] ok R1 rfl ?_ (y.step z1 e1)
 intro Z2 vs a2 lc2 hp2 s2 z2 r2 R2 e2 h2
 exact nn Z2 (v :: vs) (a :: a2) _ _ s2 (fun _ p => z2 (z1 p)) ⟨a, a2, rfl, r1.mono z2, r2⟩ R2 (e1.trans e2) h2
theorem SE.tup {l : List PySem.Expr} {kk : Nat} {pos : Pos} (h : SL C l pos (fun vs lc hp => OpNewTup C vs k x lc hp) x lc hp) : SE C (.Tuple l kk pos) k x lc hp := by
 intro Z s Q E us ok R d nn y
 refine Tuple_ (h Z s _ _ us ok R d ?_ y)
 intro Z1 v a lc1 hp1 s1 z1 r1 R1 e1 h1
 exact h1 Z1 s1 _ _ a ok R1 r1 (nn.step z1 e1) (y.step z1 e1)
theorem SE.list {l : List PySem.Expr} {pos : Pos} (h : SL C l pos (fun vs lc hp => OpNewList C vs k x lc hp) x lc hp) : SE C (.List l pos) k x lc hp := by
 intro Z s Q E us ok R d nn y
 refine List_ (h Z s _ _ us ok R d ?_ y)
 intro Z1 v a lc1 hp1 s1 z1 r1 R1 e1 h1
 exact h1 Z1 s1 _ _ a ok R1 r1 (nn.step z1 e1) (y.step z1 e1)
variable {kb : Bool → Loc → HP → Prop} {wh : Sem Value}
theorem ST.plain {e : PySem.Expr} (h : SE C e (fun v lc hp => OpTruth C v kb x lc hp) x lc hp)
  (h2 : isTrue e C.env (eval e C.env) = (do let v ← eval e C.env; standAt e.pos; holding [v] (truthy v))) : ST C e (eval e C.env) kb x lc hp := by
 intro Z s Q E us ok R d nn y
 refine isTrue_plain (h Z s _ _ us ok R d ?_ y) h2
 intro Z1 v a lc1 hp1 s1 z1 r1 R1 e1 h1
 exact h1 Z1 s1 _ _ [a] ok R1 ⟨a, [], rfl, r1, rfl⟩ (nn.step z1 e1) (y.step z1 e1)
theorem ST.not {e : PySem.Expr} {pos : Pos} (h : ST C e (eval e C.env) (fun b lc hp => kb (!b) lc hp) x lc hp) : ST C (.UnaryOp .Not e pos) wh kb x lc hp := by
 intro Z s Q E us ok R d nn y
 refine isTrue_not (h Z s _ _ us ok R d ?_ y)
 intro Z1 v a lc1 hp1 s1 z1 r1 R1 e1 h1
 subst r1
 exact nn Z1 _ _ _ _ s1 z1 rfl R1 e1 h1
theorem ST.andNil {pos : Pos} (h : kb true lc hp) : ST C (.BoolOp .And [] pos) wh kb x lc hp := by
 intro Z s Q E us ok R d nn y
 exact isTrue_and_nil (nn Z _ _ _ _ s (sub_refl Z) rfl R (Same.refl s) h)
theorem ST.orNil {pos : Pos} (h : kb false lc hp) : ST C (.BoolOp .Or [] pos) wh kb x lc hp := by
 intro Z s Q E us ok R d nn y
 exact isTrue_or_nil (nn Z _ _ _ _ s (sub_refl Z) rfl R (Same.refl s) h)
theorem ST.and {e : PySem.Expr} {r : List PySem.Expr} {pos : Pos} (h : ST C e (eval e C.env) (fun c lc hp => if c = true then ST C (.BoolOp .And r pos) wh kb x lc hp else kb false lc hp) x lc hp) : ST C (.BoolOp .And (e :: r) pos) wh kb x lc hp := by
 intro Z s Q E us ok R d nn y
 refine isTrue_and (h Z s _ _ us ok R d ?_ y)
 intro Z1 v a lc1 hp1 s1 z1 r1 R1 e1 h1
 subst r1
 cases a with
 | true => exact h1 Z1 s1 _ _ [] ok R1 rfl (nn.step z1 e1) (y.step z1 e1)
 | false => exact nn Z1 _ _ _ _ s1 z1 rfl R1 e1 h1
theorem ST.or {e : PySem.Expr} {r : List PySem.Expr} {pos : Pos} (h : ST C e (eval e C.env) (fun c lc hp => if c = true then kb true lc hp else ST C (.BoolOp .Or r pos) wh kb x lc hp) x lc hp) : ST C (.BoolOp .Or (e :: r) pos) wh kb x lc hp := by
 intro Z s Q E us ok R d nn y
 refine isTrue_or (h Z s _ _ us ok R d ?_ y)
 intro Z1 v a lc1 hp1 s1 z1 r1 R1 e1 h1
 subst r1
 cases a with
 | false => exact h1 Z1 s1 _ _ [] ok R1 rfl (nn.step z1 e1) (y.step z1 e1)
 | true => exact nn Z1 _ _ _ _ s1 z1 rfl R1 e1 h1
theorem ST.cmp {l r : PySem.Expr} {op : CmpOp} {pos : Pos} (h : SE C l (fun a lc hp => SE C r (fun b lc hp => OpCmp C op a b (fun v lc hp => OpTruth C v kb x lc hp) x lc hp) x lc hp) x lc hp) (hm : behindInMarks op r = false) : ST C (.Compare l [op] [r] pos) wh kb x lc hp := by
 intro Z s Q E us ok R d nn y
 refine wpAny_isTrue_Compare1 (h Z s _ _ us ok R d ?_ y) hm
 intro Z1 v a lc1 hp1 s1 z1 r1 R1 e1 h1
 refine h1 Z1 s1 _ _ [] ok R1 rfl ?_ (y.step z1 e1)
 intro Z2 ov a2 lc2 hp2 s2 z2 r2 R2 e2 h2
 refine h2 Z2 s2 _ _ [a, a2] ok R2 ⟨a, [a2], rfl, r1.mono z2, a2, [], rfl, r2, rfl⟩ ?_ ((y.step z1 e1).step z2 e2)
 intro Z3 v3 a3 lc3 hp3 s3 z3 r3 R3 e3 h3
 exact h3 Z3 s3 _ _ [a3] ok R3 ⟨a3, [], rfl, r3, rfl⟩ (((nn.step z1 e1).step z2 e2).step z3 e3) (((y.step z1 e1).step z2 e2).step z3 e3)
end
end Mine
end
section
open PySem PySem.W PyProof.Rows PySem.Calls
namespace Mine
noncomputable abbrev kys (mu : Mut) (fo : Led) : List Addr := (mu.map (·.2) ++ fo).map (·.1)
section
variable {C : Fm} {Z : Led} {hp : HP} {h h' : Heap} {m : Str → Option Value} {mu : Mut} {fo : Led}
theorem RelX.ne_L (X : RelX C Z hp h m mu fo) {p : Addr × Obj} (hm : p ∈ Z ++ (mu.map (·.2) ++ fo)) : p.1 ≠ C.L := (X.N p hm).2.1
theorem protOk.keys : ∀ {pr : List (Addr × (Str → Option Value))} {fo : Led}, protOk pr fo → fo.map (·.1) = pr.map (·.1)
 | [], _, h => by simp only [protOk] at h; rw [h]; rfl
 | p :: r, _, h => by
  simp only [protOk] at h
  obtain ⟨o, fo', rfl, _, q⟩ := h
  simp [protOk.keys q]
theorem protOk.obj : ∀ {pr : List (Addr × (Str → Option Value))} {fo : Led}, protOk pr fo → ∀ p ∈ fo, ∃ m, ObjNs p.2 m
 | [], _, h, p, hp => by simp only [protOk] at h; subst h; cases hp
 | q :: r, _, h, p, hp => by
  simp only [protOk] at h
  obtain ⟨o, fo', rfl, a, q⟩ := h
  rcases List.mem_cons.mp hp with rfl | hp
  ·exact ⟨_, a⟩
  ·exact protOk.obj q p hp
theorem ObjNs.notFields {o : Obj} {m : Str → Option Value} (x : ObjNs o m) : ∀ vs, o.data ≠ .fields vs := fun vs q => by
 obtain ⟨es, ep, d, _⟩ := x
 rw [d] at q; cases q
noncomputable def framesOf (C : Fm) : List Addr := C.fenv.filterMap (·.frame)
theorem mem_frames (ok : FmOk C) {b : Addr} (hb : b ∈ framesOf C) : b = C.L ∨ b ∈ C.prot.map (·.1) := by
 obtain ⟨env, he, hf⟩ := List.mem_filterMap.mp hb
 obtain ⟨_, L', hf', hl⟩ := ok.hmem env he
 obtain rfl : L' = b := Option.some.inj (hf'.symm.trans hf)
 exact hl
structure ExB (C : Fm) (Z : Led) (mu : Mut) (fo : Led) (e : Addr) (h B : Heap) : Prop where
 st : B.StaysIn h
 en : B.get? e = none
 ff : h.FunFrames B C.fenv
 zs : ∀ p ∈ Z ++ mu.map (·.2), B.get? p.1 = some p.2
 bs : C.W.base.StaysIn B
 fs : ∀ p ∈ fo, p.1 ∉ framesOf C → B.get? p.1 = some p.2
theorem funFrames_all {B : Heap} : ∀ {l : List Env}, (∀ env ∈ l, env.scope.kind = .function ∧ ∃ L o, env.frame = some L ∧ B.get? L = none ∧ h.get? L = some o ∧ ∀ vs, o.data ≠ .fields vs) → h.FunFrames B l
 | [], _ => trivial
 | env :: r, hh => ⟨by rw [(hh env (.head _)).1]; decide, (hh env (.head _)).2, funFrames_all fun e he => hh e (.tail _ he)⟩
theorem frame_obj (ok : FmOk C) (X : RelX C Z hp h m mu fo) {b : Addr} (hb : b ∈ framesOf C) : ∃ o, h.get? b = some o ∧ (∀ vs, o.data ≠ .fields vs) ∧ C.W.base.get? b = none ∧ (b = C.L ∨ b ∈ fo.map (·.1)) := by
 rcases mem_frames ok hb with rfl | hb
 ·obtain ⟨o, e1, e2⟩ := ns_iff.mp X.F.ns
  refine ⟨o, e1, e2.notFields, ?_, .inl rfl⟩
  cases q : C.W.base.get? C.L with
  | none => rfl
  | some o' => exact absurd (Nat.lt_of_lt_of_le (Heap.lt_size q) X.F.above) (Nat.lt_irrefl _)
 ·rw [← X.pr.keys] at hb
  obtain ⟨p, hp, rfl⟩ := List.mem_map.mp hb
  obtain ⟨m', hm'⟩ := X.pr.obj p hp
  have n := X.N p (List.mem_append_right _ (List.mem_append_right _ hp))
  exact ⟨p.2, n.1, hm'.notFields, n.2.2, .inr hb⟩
theorem exB_of (ok : FmOk C) (X : RelX C Z hp h m mu fo) {e : Addr} {xs : List Addr} (hx : e ∈ xs) (hn : ∀ b ∈ xs, (∀ p ∈ Z ++ (mu.map (·.2) ++ fo), p.1 ≠ b) ∧ C.W.base.get? b = none) :
  ExB C Z mu fo e h (hideAll h (xs ++ framesOf C)) := by
 have nd := X.nd
 have notFr : ∀ p ∈ Z ++ mu.map (·.2), p.1 ∉ framesOf C := fun p hp q => by
  obtain ⟨o, _, _, _, r⟩ := frame_obj ok X q
  rcases r with r | r
  ·rcases List.mem_append.mp hp with hp | hp
   ·exact X.ne_L (List.mem_append_left _ hp) r
   ·exact X.ne_L (List.mem_append_right _ (List.mem_append_left _ hp)) r
  ·rcases List.mem_append.mp hp with hp | hp
   ·exact X.dj p hp (by rw [List.map_append]; exact List.mem_append_right _ r)
   ·rw [List.map_append] at nd
    exact (List.nodup_append.mp nd).2.2 _ (List.mem_map_of_mem hp) _ r rfl
 refine ⟨fun b o q => of_hideAll _ q, hideAll_none _ (List.mem_append_left _ hx), funFrames_all fun env he => ?_, fun p hp => ?_, fun b o q => ?_, fun p hp hf => ?_⟩
 ·obtain ⟨hk, L', hf, hl⟩ := ok.hmem env he
  have hb : L' ∈ framesOf C := List.mem_filterMap.mpr ⟨env, he, hf⟩
  obtain ⟨o, e1, e2, _⟩ := frame_obj ok X hb
  exact ⟨hk, L', o, hf, hideAll_none _ (List.mem_append_right _ hb), e1, e2⟩
 ·refine hideAll_get _ (X.N p ?_).1 fun q => ?_
  ·rcases List.mem_append.mp hp with hp | hp
   ·exact List.mem_append_left _ hp
   ·exact List.mem_append_right _ (List.mem_append_left _ hp)
  ·rcases List.mem_append.mp q with q | q
   ·refine (hn _ q).1 p ?_ rfl
    rcases List.mem_append.mp hp with hp | hp
    ·exact List.mem_append_left _ hp
    ·exact List.mem_append_right _ (List.mem_append_left _ hp)
   ·exact notFr p hp q
 ·refine hideAll_get _ (X.F.keep b o q) fun z => ?_
  rcases List.mem_append.mp z with z | z
  ·rw [(hn b z).2] at q; cases q
  ·obtain ⟨_, _, _, e3, _⟩ := frame_obj ok X z
   rw [e3] at q; cases q
 ·refine hideAll_get _ (X.N p (List.mem_append_right _ (List.mem_append_right _ hp))).1 fun q => ?_
  rcases List.mem_append.mp q with q | q
  ·exact (hn _ q).1 p (List.mem_append_right _ (List.mem_append_right _ hp)) rfl
  ·exact hf q
theorem exc_after (ok : FmOk C) (X : RelX C Z hp h m mu fo) {e : Addr} {B : Heap} (b : ExB C Z mu fo e h B) (ne : ∀ p ∈ Z ++ (mu.map (·.2) ++ fo), p.1 ≠ e) (nb : C.W.base.get? e = none) {a0 fl : Value}
  (k1 : B.StaysIn h') (k3 : h'.TracedAtW B e (.ref 95) a0 fl) (k4 : ∀ b o, h.get? b = some o → (∀ vs, o.data ≠ .fields vs) → ∃ sl, h'.get? b = some { o with slots := sl }) :
  ∃ fo', RelX C Z hp h' m mu fo' ∧ fo'.map (·.1) = fo.map (·.1) ∧ ∃ oe vs a0 T oT ts, h'.get? e = some oe ∧ oe.cls = .ref 95 ∧ oe.data = .fields vs ∧ vs[0]? = some a0 ∧ C.W.base.get? e = none ∧ (∀ p ∈ Z ++ (mu.map (·.2) ++ fo'), p.1 ≠ e) ∧
   vs[1]? = some (.ref T) ∧ C.W.base.get? T = none ∧ (∀ p ∈ Z ++ (mu.map (·.2) ++ fo'), p.1 ≠ T) ∧ T ≠ e ∧ h'.get? T = some oT ∧ oT.data = .fields ts ∧ ts[3]? = some fl := by
 have fdat : ∀ p ∈ fo, ∃ sl, h'.get? p.1 = some { p.2 with slots := sl } := fun p hp => by
  obtain ⟨m', hm'⟩ := X.pr.obj p hp
  exact k4 _ _ (X.N p (List.mem_append_right _ (List.mem_append_right _ hp))).1 hm'.notFields
 have hfo : ∀ {l : Led}, (∀ p ∈ l, ∃ sl, h'.get? p.1 = some { p.2 with slots := sl }) → ∀ {pr}, protOk pr l → ∃ l', l'.map (·.1) = l.map (·.1) ∧ protOk pr l' ∧ ∀ p ∈ l', h'.get? p.1 = some p.2 := by
  intro l
  induction l with
  | nil => intro _ pr hpr; exact ⟨[], rfl, hpr, fun _ q => (nomatch q)⟩
  | cons p r ih =>
   intro hh pr hpr
   cases pr with
   | nil => simp only [protOk] at hpr; cases hpr
   | cons q pr =>
    simp only [protOk] at hpr
    obtain ⟨o, fo', e1, e2, e3⟩ := hpr
    obtain ⟨rfl, rfl⟩ := List.cons.inj e1
    obtain ⟨l', a1, a2, a3⟩ := ih (fun p hp => hh p (.tail _ hp)) e3
    obtain ⟨sl, hs⟩ := hh (q.1, o) (.head _)
    refine ⟨(q.1, { o with slots := sl }) :: l', by simp [a1], ?_, fun p hp => ?_⟩
    ·simp only [protOk]
     obtain ⟨es, ep, d, r⟩ := e2
     exact ⟨_, l', rfl, ⟨es, ep, d, r⟩, a2⟩
    ·rcases List.mem_cons.mp hp with rfl | hp
     ·exact hs
     ·exact a3 p hp
 obtain ⟨fo', f1, f2, f3⟩ := hfo fdat X.pr
 have inFo : ∀ p ∈ fo', p.1 ≠ C.L ∧ C.W.base.get? p.1 = none ∧ ∃ q ∈ fo, q.1 = p.1 := fun p hp => by
  have : p.1 ∈ fo.map (·.1) := f1 ▸ List.mem_map_of_mem hp
  obtain ⟨q, hq, e⟩ := List.mem_map.mp this
  have n := X.N q (List.mem_append_right _ (List.mem_append_right _ hq))
  exact ⟨e ▸ n.2.1, e ▸ n.2.2, q, hq, e⟩
 have keysEq : kys mu fo' = kys mu fo := by simp only [kys, List.map_append, f1]
 have X' : RelX C Z hp h' m mu fo' := by
  refine ⟨⟨Heap.UpToSlots.ns k4 X.F.ns, fun b' o q => k1 _ _ (b.bs _ _ q), X.F.above⟩, fun p hp => ?_, ?_, ?_, f2, X.hp⟩
  ·rcases List.mem_append.mp hp with hp | hp
   ·have n := X.N p (List.mem_append_left _ hp)
    exact ⟨k1 _ _ (b.zs p (List.mem_append_left _ hp)), n.2⟩
   ·rcases List.mem_append.mp hp with hp | hp
    ·have n := X.N p (List.mem_append_right _ (List.mem_append_left _ hp))
     exact ⟨k1 _ _ (b.zs p (List.mem_append_right _ hp)), n.2⟩
    ·obtain ⟨i1, i2, _⟩ := inFo p hp
     exact ⟨f3 p hp, i1, i2⟩
  ·show (kys mu fo').Nodup
   rw [keysEq]; exact X.nd
  ·exact fun p hp q => X.dj p hp (show p.1 ∈ kys mu fo by rw [← keysEq]; exact q)
 obtain ⟨oe, vs, T, oT, ts, he, ⟨hc, h0⟩, hd, h1, hnT, hTe, hT, hdT, h3⟩ := k3
 refine ⟨fo', X', f1, oe, vs, a0, T, oT, ts, he, hc, hd, h0, nb, fun p hp => ?_, h1, ?_, fun p hp q => ?_, hTe, hT, hdT, h3⟩
 ·rcases List.mem_append.mp hp with hp | hp
  ·exact ne p (List.mem_append_left _ hp)
  ·rcases List.mem_append.mp hp with hp | hp
   ·exact ne p (List.mem_append_right _ (List.mem_append_left _ hp))
   ·obtain ⟨_, _, q, hq, e'⟩ := inFo p hp
    rw [← e']; exact ne q (List.mem_append_right _ (List.mem_append_right _ hq))
 ·cases q : C.W.base.get? T with
  | none => rfl
  | some o => rw [b.bs _ _ q] at hnT; cases hnT
 ·rcases List.mem_append.mp hp with hp | hp
  ·rw [← q, b.zs p (List.mem_append_left _ hp)] at hnT; cases hnT
  ·rcases List.mem_append.mp hp with hp | hp
   ·rw [← q, b.zs p (List.mem_append_right _ hp)] at hnT; cases hnT
   ·obtain ⟨m', hm'⟩ := f2.obj p hp
    have := f3 p hp
    rw [q, hT] at this
    cases this
    exact hm'.notFields _ hdT
end
section
variable {C : Fm} {Z : Led} {hp : HP} {s : Shared} {E : Value → Shared → Prop}
noncomputable def ExcAt (C : Fm) (Z : Led) (hp : HP) (e : Addr) (fl : Value) (m : Str → Option Value) (h : Heap) : Prop :=
 ∃ mu fo, RelX C Z hp h m mu fo ∧ ∃ oe vs a0 T oT ts, h.get? e = some oe ∧ oe.cls = .ref 95 ∧ oe.data = .fields vs ∧ vs[0]? = some a0 ∧ C.W.base.get? e = none ∧ (∀ p ∈ Z ++ (mu.map (·.2) ++ fo), p.1 ≠ e) ∧
   vs[1]? = some (.ref T) ∧ C.W.base.get? T = none ∧ (∀ p ∈ Z ++ (mu.map (·.2) ++ fo), p.1 ≠ T) ∧ T ≠ e ∧ h.get? T = some oT ∧ oT.data = .fields ts ∧ ts[3]? = some fl
theorem leaving_exc {env : Env} {outer : List Env} {L : Addr} (ok : FmOk C) (hfe : C.fenv = env :: outer) (hf : env.frame = some L) (hce : C.env.frame = some L) {e : Addr} (x : Exc C Z hp e s.heap) {Q : Unit → Shared → Prop}
  (hQ : ∀ m h', ExcAt C Z hp e .none m h' → Q () { s with heap := h' }) : wpAny (model pw C.W.w) C.A (leaving env (.ref e)) Q E s := by
 obtain ⟨m, mu, fo, X, oe, vs, a0, h1, h2, h3, h4, h5, h6, h7⟩ := x
 have hfr : C.A.frames = some (env :: outer) := by rw [ok.hfr, hfe]
 rcases h7 with h7 | ⟨T, oT, ts, fl, t1, t2, t3, t4, t5, t6, t7, t8⟩
 ·have b := exB_of (xs := [e]) ok X (.head _) (fun b hb => by rcases List.mem_singleton.mp hb with rfl; exact ⟨h6, h5⟩)
  refine wpAny_leaving_firstW hfr (hfe ▸ b.ff) hf h1 b.st b.en h3 h7 h4 fun h' hL => ?_
  obtain ⟨k1, k2, k3, k4⟩ := hL
  obtain ⟨fo', X', _, r⟩ := exc_after ok X b h6 h5 k1 (h2 ▸ k3) k4
  exact hQ m h' ⟨mu, fo', X', r⟩
 ·have b := exB_of (xs := [e, T]) ok X (.head _) (fun b hb => by
   rcases List.mem_cons.mp hb with rfl | hb
   ·exact ⟨h6, h5⟩
   ·rcases List.mem_singleton.mp hb with rfl; exact ⟨t3, t2⟩)
  have hT : (hideAll s.heap ([e, T] ++ framesOf C)).get? T = none := hideAll_none _ (List.mem_append_left _ (.tail _ (.head _)))
  rcases t8 with rfl | ⟨f, e1, rfl⟩
  ·refine wpAny_leaving_nextW hfr (hfe ▸ b.ff) hf ⟨oe, vs, T, oT, ts, h1, ⟨h2, h4⟩, h3, t1, hT, t4, t5, t6, t7⟩ b.st b.en fun h' hL => ?_
   obtain ⟨k1, k2, k3, k4⟩ := hL
   obtain ⟨fo', X', _, r⟩ := exc_after ok X b h6 h5 k1 k3 k4
   exact hQ m h' ⟨mu, fo', X', r⟩
  ·obtain rfl : f = L := Option.some.inj (e1.symm.trans hce)
   unfold leaving
   have hh : s.heap.TracedAtW (hideAll s.heap ([e, T] ++ framesOf C)) e (.ref 95) a0 (rawInt f) := ⟨oe, vs, T, oT, ts, h1, ⟨h2, h4⟩, h3, t1, hT, t4, t5, t6, t7⟩
   refine wpAny_bind (wpAny_noteFrame_againW hf hh ?_)
   refine wpAny_setFlight_noneW b.st b.ff hh fun h' k1 k2 k3 k4 => ?_
   obtain ⟨fo', X', _, r⟩ := exc_after ok X b h6 h5 k1 k3 (fun b o hb hn => ⟨o.slots, k4 b o hb hn⟩)
   exact hQ m h' ⟨mu, fo', X', r⟩
theorem note_exc {env : Env} {outer : List Env} {L : Addr} (ok : FmOk C) (hfe : C.fenv = env :: outer) (hf : env.frame = some L) (hce : C.env.frame = some L) {e : Addr} (x : Exc C Z hp e s.heap) {Q : Unit → Shared → Prop} {env' : Env} (hf' : env'.frame = some L) (he : env' = env)
  (hQ : ∀ m h', ExcAt C Z hp e (rawInt L) m h' → Q () { s with heap := h' }) : wpAny (model pw C.W.w) C.A (noteFrame (.ref e) env') Q E s := by
 subst he
 obtain ⟨m, mu, fo, X, oe, vs, a0, h1, h2, h3, h4, h5, h6, h7⟩ := x
 have hfr : C.A.frames = some (env' :: outer) := by rw [ok.hfr, hfe]
 rcases h7 with h7 | ⟨T, oT, ts, fl, t1, t2, t3, t4, t5, t6, t7, t8⟩
 ·have b := exB_of (xs := [e]) ok X (.head _) (fun b hb => by rcases List.mem_singleton.mp hb with rfl; exact ⟨h6, h5⟩)
  unfold noteFrame
  simp only [hf]
  refine wpAny_bind (wpAny_field h1 h3 h7 ?_)
  rw [if_neg (by decide)]
  refine wpAny_entryW hfr (hfe ▸ b.ff) hf h1 b.st b.en h3 (Array.getElem?_eq_some_iff.mp h7).1 h4 fun h' hL => ?_
  obtain ⟨k1, k2, k3, k4⟩ := hL
  obtain ⟨fo', X', _, r⟩ := exc_after ok X b h6 h5 k1 (h2 ▸ k3) k4
  exact hQ m h' ⟨mu, fo', X', r⟩
 ·have b := exB_of (xs := [e, T]) ok X (.head _) (fun b hb => by
   rcases List.mem_cons.mp hb with rfl | hb
   ·exact ⟨h6, h5⟩
   ·rcases List.mem_singleton.mp hb with rfl; exact ⟨t3, t2⟩)
  have hT : (hideAll s.heap ([e, T] ++ framesOf C)).get? T = none := hideAll_none _ (List.mem_append_left _ (.tail _ (.head _)))
  rcases t8 with rfl | ⟨f, e1, rfl⟩
  ·refine wpAny_noteFrame_onW hfr (hfe ▸ b.ff) hf ⟨oe, vs, T, oT, ts, h1, ⟨h2, h4⟩, h3, t1, hT, t4, t5, t6, t7⟩ b.st b.en fun h' hL => ?_
   obtain ⟨k1, k2, k3, k4⟩ := hL
   obtain ⟨fo', X', _, r⟩ := exc_after ok X b h6 h5 k1 k3 k4
   exact hQ m h' ⟨mu, fo', X', r⟩
  ·obtain rfl : f = L := Option.some.inj (e1.symm.trans hce)
   refine wpAny_noteFrame_againW hf ⟨oe, vs, T, oT, ts, h1, ⟨h2, h4⟩, h3, t1, hT, t4, t5, t6, t7⟩ ?_
   exact hQ m s.heap ⟨mu, fo, X, oe, vs, a0, T, oT, ts, h1, h2, h3, h4, h5, h6, t1, t2, t3, t4, t5, t6, t7⟩
end
end Mine
end
section
open PySem PySem.W PyProof.Rows PySem.Calls
namespace Mine
structure Callee (C C' : Fm) (fd : FuncData) (rm : Nat) : Prop where
 W : C'.W = C.W
 sc : C'.env.scope = fd.scope
 cl : C'.env.cells = fd.closure
 rm : C'.rm = rm
 hh : C'.A.handled = C.A.handled
 top : C'.top = true
noncomputable def retV : Fl → V
 | .ret v => v
 | _ => .none
theorem lookup_zip {W : Wd} {Z : Led} : ∀ {ns : List Str} {vs : List V} {us : List Value}, denL W Z vs us → ∀ {x : Str} {v : V}, (ns.zip vs).lookup x = some v → ∃ u, (ns.zip us).lookup x = some u ∧ den W Z v u
 | [], vs, us, _, x, v, e => by simp at e
 | n :: ns, [], us, d, x, v, e => by simp at e
 | n :: ns, y :: vs, us, d, x, v, e => by
  simp only [denL] at d
  obtain ⟨u, us', rfl, d1, d2⟩ := d
  simp only [List.zip_cons_cons, List.lookup_cons] at e ⊢
  cases hx : x == n with
  | true => rw [hx] at e; simp only [Option.some.injEq] at e; subst e; exact ⟨u, rfl, d1⟩
  | false => rw [hx] at e; exact lookup_zip d2 e
theorem lookup_append' {α : Type} {x : Str} : ∀ (l l2 : List (Str × α)), (l ++ l2).lookup x = (l.lookup x).or (l2.lookup x)
 | [], l2 => by simp
 | p :: r, l2 => by
  obtain ⟨a, b⟩ := p
  simp only [List.cons_append, List.lookup_cons]
  cases x == a with
  | true => rfl
  | false => exact lookup_append' r l2
theorem lookup_none_of {α : Type} {x : Str} : ∀ (l : List (Str × α)), x ∉ l.map (·.1) → l.lookup x = none
 | [], _ => rfl
 | p :: r, h => by
  obtain ⟨a, b⟩ := p
  simp only [List.map_cons, List.mem_cons, not_or] at h
  simp only [List.lookup_cons]
  rw [show (x == a) = false from beq_eq_false_iff_ne.mpr h.1]
  exact lookup_none_of r h.2
theorem lookup_reverse {α : Type} {x : Str} : ∀ (l : List (Str × α)), (l.map (·.1)).Nodup → l.reverse.lookup x = l.lookup x
 | [], _ => rfl
 | p :: r, h => by
  obtain ⟨a, b⟩ := p
  simp only [List.map_cons, List.nodup_cons] at h
  rw [List.reverse_cons, lookup_append', lookup_reverse r h.2]
  simp only [List.lookup_cons]
  cases hx : x == a with
  | true =>
   rw [lookup_none_of r (by rw [beq_iff_eq.mp hx]; exact h.1)]
   rfl
  | false => cases r.lookup x <;> rfl
theorem zip_keys {α : Type} : ∀ (ns : List Str) (us : List α), ns.length = us.length → (ns.zip us).map (·.1) = ns
 | [], _, _ => by simp
 | n :: ns, [], h => by simp at h
 | n :: ns, u :: us, h => by simp [zip_keys ns us (by simpa using h)]
structure FnOk (P : Params) (f : Addr) (fd : FuncData) (body : List Stmt) (ns : List Str) (nv : Nat) (dvs : List Value) : Prop where
 hf : ∃ oc od osl, (K P).lookup f = some ⟨oc, od, .func fd, osl⟩
 hbody : fd.body = .stmts body
 hcode : codeIn (K P) fd.code fd.qualname = true
 hgl : fd.globals = mainGlobals
 hbi : fd.builtins = builtinsNs
 hcls : fd.closure = []
 hk : fd.scope.kind = .function
 hco : fd.scope.isCoroutine = false
 hgen : fd.scope.isGenerator = false
 hbind : ∀ us : List Value, us.length = nv → ∀ s : Shared, (K P).In s.heap → BindsTo s fd ⟨us, []⟩ (ns.zip (us ++ dvs))
 hlen : ns.length = nv + dvs.length
 hnd : ns.Nodup
structure FnLoc (fd : FuncData) (ns : List Str) : Prop where
 hcell : ∀ x ∈ fd.scope.names, x.2 ≠ .cell
 hloc : ∀ y ∈ ns, fd.scope.names.lookup y = some .local
section
variable {C : Fm} {Z : Led} {hp : HP} {lc : Loc} {s : Shared} {x : HP → Prop}
theorem nodup_mid {α : Type} {a : α} {l r : List α} (h : (l ++ r).Nodup) (n : a ∉ l ++ r) : (l ++ a :: r).Nodup := by
 have p : (l ++ a :: r).Perm (a :: (l ++ r)) := List.perm_middle
 exact p.nodup_iff.mpr (List.nodup_cons.mpr ⟨n, h⟩)
theorem enter_rel {m : Str → Option Value} {mu : Mut} {fo : Led} (X : RelX C Z hp s.heap m mu fo) {C' : Fm} (hW : C'.W = C.W) (hL : C'.L = s.heap.objs.size) (hpr : C'.prot = (C.L, m) :: C.prot) {h₁ : Heap} {m' : Str → Option Value}
  (hns : h₁.Ns s.heap.objs.size m') (hk : ∀ b o, s.heap.get? b = some o → h₁.get? b = some o) : ∃ o, RelX C' Z hp h₁ m' mu ((C.L, o) :: fo) := by
 obtain ⟨oL, e1, e2⟩ := ns_iff.mp X.F.ns
 have hLb : C.W.base.get? C.L = none := by
  cases q : C.W.base.get? C.L with
  | none => rfl
  | some o' => exact absurd (Nat.lt_of_lt_of_le (Heap.lt_size q) X.F.above) (Nat.lt_irrefl _)
 have notL : C.L ∉ kys mu fo := fun q => by
  obtain ⟨p, hp, e⟩ := List.mem_map.mp q
  exact (X.N p (List.mem_append_right _ hp)).2.1 e
 refine ⟨oL, ⟨hL ▸ hns, fun b o q => hk b o (X.F.keep b o (hW ▸ q)), ?_⟩, fun p hp => ?_, ?_, fun p hp q => ?_, ?_, fun a o q => ?_⟩
 ·rw [hL, hW]; exact Nat.le_trans X.F.above (Nat.le_of_lt X.F.ns.lt)
 ·rw [hL, hW]
  have key : s.heap.get? p.1 = some p.2 ∧ C.W.base.get? p.1 = none := by
   rcases List.mem_append.mp hp with hp | hp
   ·exact ⟨(X.N p (List.mem_append_left _ hp)).1, (X.N p (List.mem_append_left _ hp)).2.2⟩
   ·rcases List.mem_append.mp hp with hp | hp
    ·exact ⟨(X.N p (List.mem_append_right _ (List.mem_append_left _ hp))).1, (X.N p (List.mem_append_right _ (List.mem_append_left _ hp))).2.2⟩
    ·rcases List.mem_cons.mp hp with rfl | hp
     ·exact ⟨e1, hLb⟩
     ·exact ⟨(X.N p (List.mem_append_right _ (List.mem_append_right _ hp))).1, (X.N p (List.mem_append_right _ (List.mem_append_right _ hp))).2.2⟩
  exact ⟨hk _ _ key.1, Nat.ne_of_lt (Heap.lt_size key.1), key.2⟩
 ·rw [List.map_append, List.map_cons]
  have nd := X.nd
  rw [List.map_append] at nd
  exact nodup_mid nd (by rw [← List.map_append]; exact notL)
 ·rw [List.map_append, List.map_cons] at q
  rcases List.mem_append.mp q with q | q
  ·exact X.dj p hp (by rw [List.map_append]; exact List.mem_append_left _ q)
  ·rcases List.mem_cons.mp q with q | q
   ·exact (X.N p (List.mem_append_left _ hp)).2.1 q
   ·exact X.dj p hp (by rw [List.map_append]; exact List.mem_append_right _ q)
 ·rw [hpr]; exact ⟨oL, fo, rfl, e2, X.pr⟩
 ·rw [hW]; exact X.hp a o q
theorem leave_rel {m : Str → Option Value} {C' : Fm} (hW : C'.W = C.W) (hpr : C'.prot = (C.L, m) :: C.prot) (hab : C.W.base.objs.size ≤ C.L) {Z' : Led} {hp' : HP} {h' : Heap} {m' : Str → Option Value} {mu' : Mut} {fo' : Led} (X : RelX C' Z' hp' h' m' mu' fo') :
  ∃ o fo, fo' = (C.L, o) :: fo ∧ RelX C Z' hp' h' m mu' fo := by
 have pr := X.pr
 rw [hpr] at pr
 obtain ⟨o, fo, rfl, on, pr'⟩ := pr
 have hW' : C.W = C'.W := hW.symm
 have nd := X.nd
 rw [List.map_append, List.map_cons] at nd
 have pm : (List.map (·.1) (mu'.map (·.2)) ++ C.L :: fo.map (·.1)).Perm (C.L :: (List.map (·.1) (mu'.map (·.2)) ++ fo.map (·.1))) := List.perm_middle
 have nd' := pm.nodup_iff.mp nd
 obtain ⟨n1, n2⟩ := List.nodup_cons.mp nd'
 have mem : ∀ p, p ∈ Z' ++ (mu'.map (·.2) ++ fo) → p ∈ Z' ++ (mu'.map (·.2) ++ (C.L, o) :: fo) := fun p hp => by
  rcases List.mem_append.mp hp with hp | hp
  ·exact List.mem_append_left _ hp
  ·rcases List.mem_append.mp hp with hp | hp
   ·exact List.mem_append_right _ (List.mem_append_left _ hp)
   ·exact List.mem_append_right _ (List.mem_append_right _ (.tail _ hp))
 refine ⟨o, fo, rfl, ⟨ns_iff.mpr ⟨o, (X.N (C.L, o) (List.mem_append_right _ (List.mem_append_right _ (.head _)))).1, on⟩, fun b ob q => X.F.keep b ob (hW ▸ q), hab⟩, fun p hp => ?_, ?_, fun p hp q => ?_, pr', fun a ob q => hW ▸ X.hp a ob q⟩
 ·have n := X.N p (mem p hp)
  refine ⟨n.1, fun q => ?_, hW' ▸ n.2.2⟩
  rcases List.mem_append.mp hp with hp | hp
  ·exact X.dj p hp (by rw [q, List.map_append, List.map_cons]; exact List.mem_append_right _ (.head _))
  ·exact n1 (by rw [← List.map_append, ← q]; exact List.mem_map_of_mem hp)
 ·rw [List.map_append]; exact n2
 ·refine X.dj p hp ?_
  rw [List.map_append] at q
  rw [List.map_append, List.map_cons]
  rcases List.mem_append.mp q with q | q
  ·exact List.mem_append_left _ q
  ·exact List.mem_append_right _ (.tail _ q)
theorem codeRec_in {P : Params} {h : Heap} (X : (K P).In h) {cd : Value} {q : Str} (e : codeIn (K P) cd q = true) : h.CodeRec cd q := codeRec_of X e
theorem code_fn {A1 : Around} {fd : FuncData} {f : Addr} {body : List Stmt} {ns : List Str} {vs ds : List V} {us dvs : List Value} {nv rm : Nat} {k : V → HP → Prop} {R' : Result → Shared → Prop}
  (ok : FmOk C) (hA : A1.frames = C.A.frames) (hH : A1.handled = C.A.handled) (hd1 : A1.depth + rm + 1 < recursionLimit) (hu1 : A1.units + 8 * rm + 103 < cLine)
  (G : FnOk C.W.w.params f fd body ns nv dvs) (G2 : FnLoc fd ns) (hnv : vs.length = nv) (hds : ∀ Z, denL C.W Z ds dvs)
  (R : Rel C Z lc hp s.heap) (d : denL C.W Z vs us)
  (hb : ∀ C', Callee C C' fd rm → SXs C' body (fun fl _ hp' => k (retV fl) hp') x (ns.zip (vs ++ ds)) hp)
  (hn : ∀ Z' v u hp' s', Z ⊆ Z' → den C.W Z' v u → Rel C Z' lc hp' s'.heap → Same s s' → k v hp' → R' (.ok (.ret u)) s')
  (hx : ∀ Z' e hp' s', Z ⊆ Z' → Exc C Z' hp' e s'.heap → Same s s' → x hp' → R' (.error (.ref e)) s') : codeAny (model pw C.W.w) A1 (.call (.ref f) ⟨us, []⟩) R' s := by
 obtain ⟨⟨oc, od, osl, hf⟩, hbody, hcode, hgl, hbi, hcls, hk, hco, hgen, hbind, hlen, hnd⟩ := G
 obtain ⟨hcell, hloc⟩ := G2
 obtain ⟨m, mu, fo, X, l⟩ := R
 have KX : (K C.W.w.params).In s.heap := ok.wok.X.keeps X.F.keep
 have hlu : us.length = vs.length := denL_length d
 have hbs := hbind us (hlu.trans hnv) s KX
 have d := denL_append d (hds Z)
 have hlu : (us ++ dvs).length = (vs ++ ds).length := denL_length d
 have hzk : (ns.zip (us ++ dvs)).map (·.1) = ns := zip_keys ns (us ++ dvs) (by
  rw [hlen, hlu, List.length_append, hnv, denL_length (hds Z)])
 refine codeAny_call_def (fd := fd) (body := body) (binds := ns.zip (us ++ dvs)) (by exact oe8 hd1) (KX _ _ hf) rfl (ok.wok.T.nolimit.keeps X.F.keep) (codeRec_in KX hcode) hbody hbs hcell (fun y hy => hloc y.1 (hzk ▸ List.mem_map_of_mem hy)) (fun h₁ hns hk₁ => ?_) hco hgen hk
 let C' : Fm := { W := C.W, A := A1.deeper (callEnv fd s.heap.objs.size f), env := callEnv fd s.heap.objs.size f, L := s.heap.objs.size, fenv := callEnv fd s.heap.objs.size f :: C.fenv, prot := (C.L, m) :: C.prot, rm := rm, top := true }
 have ok' : FmOk C' := by
  refine ⟨ok.wok, hk, rfl, hgl, hbi, ?_, hH.trans ok.hand, fun _ => rfl, fun _ => ⟨_, rfl⟩, fun env he => ?_, ?_, ?_⟩
  ·show A1.frames.map _ = _
   rw [hA, ok.hfr]; rfl
  ·rcases List.mem_cons.mp he with rfl | he
   ·exact ⟨hk, s.heap.objs.size, rfl, .inl rfl⟩
   ·obtain ⟨a1, L', a2, a3⟩ := ok.hmem env he
    refine ⟨a1, L', a2, .inr ?_⟩
    rcases a3 with rfl | a3
    ·exact .head _
    ·exact .tail _ a3
  ·show A1.depth + 1 + rm < _; exact ob9 hd1
  ·show A1.units + 3 + 8 * rm + 100 < _; exact oj7 hu1
 obtain ⟨oL, X'⟩ := enter_rel (C' := C') X rfl rfl rfl hns hk₁
 have bt := hb C' ⟨rfl, rfl, rfl, rfl, hH, rfl⟩
 have hab := X.F.above
 have z : Z ⊆ Z := sub_refl Z
 refine bt Z _ _ _ [] ok' ⟨_, mu, _, X', fun y v e => ?_⟩ rfl ?_ ?_
 ·show ∃ u, (ns.zip (us ++ dvs)).reverse.lookup y = some u ∧ _
  rw [lookup_reverse _ (by rw [hzk]; exact hnd)]
  exact lookup_zip d e
 ·intro Z' fl fv lc' hp' s' z' r' R1 sm kk
  obtain ⟨m', mu', fo', X1, _⟩ := R1
  obtain ⟨o, fo1, _, X2⟩ := leave_rel (C := C) (C' := C') rfl rfl hab X1
  refine hn Z' (retV fl) _ hp' s' z' ?_ ⟨m, mu', fo1, X2, l.mono z'⟩ ((Same.mk' s h₁ _).trans sm) kk
  clear kk
  cases fl with
  | ret v => obtain ⟨u, rfl, du⟩ := r'; exact du
  | next => cases r'; exact rfl
  | brk => cases r'; exact rfl
  | cont => cases r'; exact rfl
 ·intro Z' e hp' s' z' ex sm xx
  refine leaving_exc (C := C') (L := s.heap.objs.size) ok' rfl rfl rfl ex fun m' h' ea => ?_
  obtain ⟨mu', fo', X1, oe, ws, a0, T, oT, ts, h1, h2, h3, h4, h5, h6, t1, t2, t3, t4, t5, t6, t7⟩ := ea
  obtain ⟨o, fo1, hfo, X2⟩ := leave_rel (C := C) (C' := C') rfl rfl hab X1
  subst hfo
  have mem : ∀ p, p ∈ Z' ++ (mu'.map (·.2) ++ fo1) → p ∈ Z' ++ (mu'.map (·.2) ++ (C.L, o) :: fo1) := fun p hp => by
   rcases List.mem_append.mp hp with hp | hp
   ·exact List.mem_append_left _ hp
   ·rcases List.mem_append.mp hp with hp | hp
    ·exact List.mem_append_right _ (List.mem_append_left _ hp)
    ·exact List.mem_append_right _ (List.mem_append_right _ (.tail _ hp))
  exact hx Z' e hp' _ z' ⟨m, mu', fo1, X2, oe, ws, a0, h1, h2, h3, h4, h5, fun p hp => h6 p (mem p hp), .inr ⟨T, oT, ts, .none, t1, t2, fun p hp => t3 p (mem p hp), t4, t5, t6, t7, .inl rfl⟩⟩ ((Same.mk' s h₁ _).trans (sm.trans (Same.mk' s' h' _))) xx
end
theorem bind0 {P : List Value → Prop} (h : P []) (us : List Value) (e : us.length = 0) : P us := List.length_eq_zero_iff.mp e ▸ h
theorem bindS {P : List Value → Prop} {n : Nat} (h : ∀ a us, us.length = n → P (a :: us)) (us : List Value) (e : us.length = n + 1) : P us := by
 cases us with
 | nil => cases e
 | cons a us => exact h a us (Nat.succ.inj e)
theorem bind1 {P : List Value → Prop} (h : ∀ a, P [a]) : ∀ us : List Value, us.length = 1 → P us := bindS fun a => bind0 (h a)
theorem bind2 {P : List Value → Prop} (h : ∀ a b, P [a, b]) : ∀ us : List Value, us.length = 2 → P us := bindS fun a => bind1 (P := fun us => P (a :: us)) (h a)
theorem bind3 {P : List Value → Prop} (h : ∀ a b c, P [a, b, c]) : ∀ us : List Value, us.length = 3 → P us := bindS fun a => bind2 (P := fun us => P (a :: us)) (h a)
theorem bind4 {P : List Value → Prop} (h : ∀ a b c d, P [a, b, c, d]) : ∀ us : List Value, us.length = 4 → P us := bindS fun a => bind3 (P := fun us => P (a :: us)) (h a)
theorem bind5 {P : List Value → Prop} (h : ∀ a b c d e, P [a, b, c, d, e]) : ∀ us : List Value, us.length = 5 → P us := bindS fun a => bind4 (P := fun us => P (a :: us)) (h a)
theorem OpCall.fn {C : Fm} {fd : FuncData} {f : Addr} {body : List Stmt} {ns : List Str} {nv : Nat} {vs ds : List V} {dvs : List Value} (rm : Nat) {k : V → Loc → HP → Prop} {x : HP → Prop} {lc : Loc} {hp : HP}
  (G : FnOk C.W.w.params f fd body ns nv dvs) (G2 : FnLoc fd ns) (hnv : vs.length = nv) (hds : ∀ Z, denL C.W Z ds dvs) (hrm : rm < C.rm)
  (hb : ∀ C', Callee C C' fd rm → SXs C' body (fun fl _ hp' => k (retV fl) lc hp') x (ns.zip (vs ++ ds)) hp) : OpCall C (.ref f) vs k x lc hp := by
 intro Z s Q E us ok R d n y
 simp only [denL] at d
 obtain ⟨fu, us', rfl, d1, d2⟩ := d
 obtain rfl : fu = .ref f := d1
 have h1 := ok.depth
 have h2 := ok.units
 exact wpAny_call (code_fn (A1 := C.A) (k := fun v hp' => k v lc hp') ok rfl rfl (by exact op8 hrm h1) (by exact oz6 hrm h2) G G2 hnv hds R d2 hb
  (fun Z' v u hp' s' z dv R' sm kk => n Z' v u lc hp' s' z dv R' sm kk) y)
end Mine
end
section
open PySem PySem.W PyProof.Rows PySem.Calls
namespace Mine
section
variable {C : Fm} {Z : Led} {hp : HP} {lc : Loc} {s : Shared} {x : HP → Prop}
theorem RelX.sameBut {h h' : Heap} {m m' : Str → Option Value} {mu : Mut} {fo : Led} (X : RelX C Z hp h m mu fo) (hs : Heap.SameBut C.L h h') (hn : h'.Ns C.L m') : RelX C Z hp h' m' mu fo :=
 ⟨X.F.set hn hs, X.N.set hs, X.nd, X.dj, X.pr, X.hp⟩
theorem RelX.push {h : Heap} {m : Str → Option Value} {mu : Mut} {fo : Led} (X : RelX C Z hp h m mu fo) (o : Obj) (hf : o.isFreed = false) : RelX C ((h.objs.size, o) :: Z) hp (h.push o) m mu fo := by
 refine ⟨X.F.push o, News.push X.F X.N o hf, X.nd, fun p hp q => ?_, X.pr, fun a ob e => ?_⟩
 ·rcases List.mem_cons.mp hp with rfl | hp
  ·obtain ⟨r, hr, e⟩ := List.mem_map.mp q
   have := Heap.lt_size (X.N r (List.mem_append_right _ hr)).1
   rw [e] at this
   exact Nat.lt_irrefl _ this
  ·exact X.dj p hp q
 ·obtain ⟨key, ob', h1, h2⟩ := X.hp a ob e
  exact ⟨key, ob', h1, h2.mono fun _ q => .tail _ q⟩
theorem hp_lt {h : Heap} {m : Str → Option Value} {mu : Mut} {fo : Led} (X : RelX C Z hp h m mu fo) {a : Addr} {o : O} (e : hp a = some o) : a < h.objs.size := by
 obtain ⟨key, ob, h1, h2⟩ := X.hp a o e
 have g := (X.N (key, ob) (List.mem_append_right _ (List.mem_append_left _ (List.mem_map_of_mem h1)))).1
 cases o with
 | list l => obtain ⟨rfl, _⟩ := h2; exact Heap.lt_size g
 | dict ks vs => obtain ⟨rfl, _⟩ := h2; exact Heap.lt_size g
 | cell v => obtain ⟨rfl, _⟩ := h2; exact Heap.lt_size g
 | exc v => obtain ⟨rfl, _⟩ := h2; exact Heap.lt_size g
 | adict v _ => obtain ⟨rfl, _⟩ := h2; exact Heap.lt_size g
 | inst c ns vs =>
  obtain ⟨_, _, _, q, _⟩ := h2
  exact Heap.lt_size (X.N _ (List.mem_append_left _ q)).1
theorem hp_none {h : Heap} {m : Str → Option Value} {mu : Mut} {fo : Led} (X : RelX C Z hp h m mu fo) {a : Addr} (e : h.objs.size ≤ a) : hp a = none := by
 cases q : hp a with
 | none => rfl
 | some o => exact absurd (hp_lt X q) (Nat.not_lt.mpr e)
theorem RelX.pushM {h : Heap} {m : Str → Option Value} {mu : Mut} {fo : Led} (X : RelX C Z hp h m mu fo) (ob : Obj) (o : O) (hf : ob.isFreed = false) (co : cellOk C.W Z h.objs.size h.objs.size ob o) :
  RelX C Z (hp.set h.objs.size o) (h.push ob) m ((h.objs.size, h.objs.size, ob) :: mu) fo := by
 have N' := News.push X.F X.N ob hf
 have nk : h.objs.size ∉ kys mu fo := fun q => by
  obtain ⟨r, hr, e⟩ := List.mem_map.mp q
  have := Heap.lt_size (X.N r (List.mem_append_right _ hr)).1
  rw [e] at this
  exact Nat.lt_irrefl _ this
 refine ⟨X.F.push ob, fun p hp => N' p ?_, ?_, fun p hp q => ?_, X.pr, fun a o' e => ?_⟩
 ·rcases List.mem_append.mp hp with hp | hp
  ·exact .tail _ (List.mem_append_left _ hp)
  ·rcases List.mem_cons.mp hp with rfl | hp
   ·exact .head _
   ·exact .tail _ (List.mem_append_right _ hp)
 ·exact List.nodup_cons.mpr ⟨nk, X.nd⟩
 ·rcases List.mem_cons.mp q with q | q
  ·have := Heap.lt_size (X.N p (List.mem_append_left _ hp)).1
   rw [q] at this
   exact Nat.lt_irrefl _ this
  ·exact X.dj p hp q
 ·unfold HP.set at e
  by_cases q : a = h.objs.size
  ·rw [if_pos q] at e; cases e; subst q
   exact ⟨_, ob, .head _, co⟩
  ·rw [if_neg q] at e
   obtain ⟨key, ob', h1, h2⟩ := X.hp a o' e
   exact ⟨key, ob', .tail _ h1, h2⟩
theorem mut_split {mu : Mut} {e : Addr × Addr × Obj} (h : e ∈ mu) : ∃ pre post, mu = pre ++ e :: post := List.append_of_mem h
theorem RelX.turn {h h' : Heap} {m : Str → Option Value} {mu : Mut} {fo : Led} (X : RelX C Z hp h m mu fo) {a key : Addr} {ob ob' : Obj} {o' : O} (hm : (a, key, ob) ∈ mu) (hs : Heap.SameBut key h h') (ho : h'.get? key = some ob') (co : cellOk C.W Z a key ob' o') :
  ∃ mu', RelX C Z (hp.set a o') h' m mu' fo := by
 obtain ⟨pre, post, rfl⟩ := mut_split hm
 have nd := X.nd
 have e0 : (pre ++ (a, key, ob) :: post).map (·.2) ++ fo = pre.map (·.2) ++ (key, ob) :: (post.map (·.2) ++ fo) := by simp
 have N := X.N
 rw [e0] at nd N
 have nb := N (key, ob) (List.mem_append_right _ (List.mem_append_right _ (.head _)))
 have h1 : ∀ p ∈ Z ++ pre.map (·.2), p.1 ≠ key := fun p hp q => by
  rcases List.mem_append.mp hp with hp | hp
  ·refine X.dj p hp ?_
   rw [e0, List.map_append, List.map_cons, q]
   exact List.mem_append_right _ (.head _)
  ·rw [List.map_append, List.map_cons] at nd
   exact (List.nodup_append.mp nd).2.2 _ (List.mem_map_of_mem hp) _ (.head _) q
 have h2 : ∀ p ∈ post.map (·.2) ++ fo, p.1 ≠ key := fun p hp q => by
  rw [List.map_append, List.map_cons] at nd
  have := (List.nodup_cons.mp (List.nodup_append.mp nd).2.1).1
  have z : p.1 ∈ (post.map (·.2) ++ fo).map (·.1) := List.mem_map_of_mem hp
  rw [q] at z
  exact this z
 have e1 : (pre ++ (a, key, ob') :: post).map (·.2) ++ fo = pre.map (·.2) ++ (key, ob') :: (post.map (·.2) ++ fo) := by simp
 refine ⟨pre ++ (a, key, ob') :: post, ⟨X.F.ns.sameBut hs (Ne.symm nb.2.1), fun b o q => ?_, X.F.above⟩, ?_, ?_, fun p hp q => ?_, X.pr, fun b o e => ?_⟩
 ·refine (hs.2 b fun z => ?_).trans (X.F.keep b o q)
  rw [z, nb.2.2] at q; cases q
 ·rw [e1]
  rw [← List.append_assoc] at N ⊢
  exact news_set N h1 h2 hs ho
 ·rw [e1]
  rw [List.map_append, List.map_cons] at nd ⊢
  exact nd
 ·refine X.dj p hp ?_
  rw [e1, List.map_append, List.map_cons] at q
  rw [e0, List.map_append, List.map_cons]
  exact q
 ·unfold HP.set at e
  by_cases q : b = a
  ·rw [if_pos q] at e; cases e; subst q
   exact ⟨key, ob', List.mem_append_right _ (.head _), co⟩
  ·rw [if_neg q] at e
   obtain ⟨key', ob2, k1, k2⟩ := X.hp b o e
   refine ⟨key', ob2, ?_, k2⟩
   rcases List.mem_append.mp k1 with k1 | k1
   ·exact List.mem_append_left _ k1
   ·rcases List.mem_cons.mp k1 with k1 | k1
    ·cases k1; exact absurd rfl q
    ·exact List.mem_append_right _ (.tail _ k1)
theorem OpStore.loc {n : Str} {v : V} {k : Unit → Loc → HP → Prop} (hl : C.env.scope.names.lookup n = some .local) (h : k () ((n, v) :: lc) hp) : OpStore C n v k x lc hp := by
 intro Z s Q E us ok R d nn y
 simp only [denL] at d
 obtain ⟨u, us', rfl, d1, rfl⟩ := d
 obtain ⟨m, mu, fo, X, l⟩ := R
 refine wpAny_storeName_local hl (ok.hloc.symm ▸ X.F.ns) (fun h' hn hs => ?_) (by rw [ok.hk]; rfl)
 rw [ok.hloc] at hn hs
 refine nn Z () () _ hp _ (sub_refl Z) trivial ⟨_, mu, fo, X.sameBut hs hn, fun y w e => ?_⟩ (Same.mk' ..) h
 rw [List.lookup_cons] at e
 by_cases q : y = n
 ·subst q
  rw [show (y == y) = true from beq_self_eq_true y] at e
  cases e
  exact ⟨u, if_pos rfl, d1⟩
 ·rw [show (y == n) = false from beq_eq_false_iff_ne.mpr q] at e
  obtain ⟨u', h1, h2⟩ := l y w e
  exact ⟨u', by show (if y = n then _ else _) = _; rw [if_neg q]; exact h1, h2⟩
theorem OpStore.cel {n : Str} {v : V} {v0 : Option V} {c : Addr} {k : Unit → Loc → HP → Prop} (hl : C.env.scope.names.lookup n = some .cell) (hc : C.env.cells.lookup n = some c) (h0 : hp c = some (.cell v0)) (h : k () lc (hp.set c (.cell (some v)))) : OpStore C n v k x lc hp := by
 intro Z s Q E us ok R d nn y
 simp only [denL] at d
 obtain ⟨u, us', rfl, d1, rfl⟩ := d
 obtain ⟨m, mu, fo, X, l⟩ := R
 obtain ⟨key, ob, m1, c1⟩ := X.hp c _ h0
 obtain ⟨rfl, v', hd, _⟩ := c1
 have g := (X.N (key, ob) (List.mem_append_right _ (List.mem_append_left _ (List.mem_map_of_mem m1)))).1
 refine wpAny_storeName_cell ok.hk hl hc ⟨ob, g, hd⟩ (fun h' hv hs => ?_)
 obtain ⟨ob', ho', hd'⟩ := hv
 obtain ⟨mu', X'⟩ := X.turn (o' := .cell (some v)) m1 hs ho' ⟨rfl, some u, hd', u, rfl, d1⟩
 exact nn Z () () _ _ _ (sub_refl Z) trivial ⟨m, mu', fo, X', l⟩ (Same.mk' ..) h
theorem SE.nameC {n : Str} {pos : Pos} {v : V} {c : Addr} {k : V → Loc → HP → Prop} (hl : C.env.scope.names.lookup n = some .cell) (hc : C.env.cells.lookup n = some c) (h0 : hp c = some (.cell (some v))) (h : k v lc hp) (hd : (n == ("__debug__" : Str)) = false) : SE C (.Name n pos) k x lc hp := by
 intro Z s Q E us ok R d nn y
 obtain ⟨m, mu, fo, X, l⟩ := id R
 obtain ⟨key, ob, m1, c1⟩ := X.hp c _ h0
 obtain ⟨rfl, _, hd', v', rfl, dv⟩ := c1
 have g := (X.N (key, ob) (List.mem_append_right _ (List.mem_append_left _ (List.mem_map_of_mem m1)))).1
 exact wpAny_Name (wpAny_loadName_cell ok.hk hl hc ⟨ob, g, hd'⟩ (nn Z v v' lc hp s (sub_refl Z) dv R (Same.refl s) h)) hd
theorem OpNewTup.mk {l : List V} {k : V → Loc → HP → Prop} (hz : l.length ≤ sizeLine) (h : k (.tup l) lc hp) : OpNewTup C l k x lc hp := by
 intro Z s Q E us ok R d nn y
 obtain ⟨m, mu, fo, X, lo⟩ := R
 have X' := X.push (tupO us.toArray 0) rfl
 refine wpAny_newObj_type (nn ((s.heap.objs.size, tupO us.toArray 0) :: Z) (.tup l) _ lc hp _ (fun _ q => .tail _ q) ?_ ⟨m, mu, fo, X', lo.mono fun _ q => .tail _ q⟩ (Same.mk' s _ s.toks) h) (by show us.toArray.size ≤ sizeLine; rw [List.size_toArray, denL_length d]; exact hz)
 simp only [den]
 exact ⟨_, tupO us.toArray 0, us.toArray, 0, rfl, .inr (.head _), rfl, rfl, d.mono fun _ q => .tail _ q⟩
theorem OpNewList.mk {l : List V} {k : V → Loc → HP → Prop} (hz : l.length ≤ sizeLine) (h : ∀ a, hp a = none → k (.ref a) lc (hp.set a (.list l))) : OpNewList C l k x lc hp := by
 intro Z s Q E us ok R d nn y
 obtain ⟨m, mu, fo, X, lo⟩ := R
 have X' := X.pushM (listOf us.toArray 0) (.list l) rfl ⟨rfl, us.toArray, 0, rfl, d⟩
 exact wpAny_newObj_type (nn Z (.ref s.heap.objs.size) _ lc _ _ (sub_refl Z) rfl ⟨m, _, fo, X', lo⟩ (Same.mk' s _ s.toks) (h _ (hp_none X (Nat.le_refl _)))) (by show us.toArray.size ≤ sizeLine; rw [List.size_toArray, denL_length d]; exact hz)
theorem OpNewList.fz {l : List V} {k : V → Loc → HP → Prop} (hz : l.length ≤ sizeLine) (h : k (.lst l) lc hp) : OpNewList C l k x lc hp := by
 intro Z s Q E us ok R d nn y
 obtain ⟨m, mu, fo, X, lo⟩ := R
 have X' := X.push (listOf us.toArray 0) rfl
 refine wpAny_newObj_type (nn ((s.heap.objs.size, listOf us.toArray 0) :: Z) (.lst l) _ lc hp _ (fun _ q => .tail _ q) ?_ ⟨m, mu, fo, X', lo.mono fun _ q => .tail _ q⟩ (Same.mk' s _ s.toks) h) (by show us.toArray.size ≤ sizeLine; rw [List.size_toArray, denL_length d]; exact hz)
 simp only [den]
 exact ⟨_, listOf us.toArray 0, us.toArray, 0, rfl, .inr (.head _), rfl, rfl, d.mono fun _ q => .tail _ q⟩
noncomputable def frz : O → Option V
 | .list l => some (.lst l)
 | .inst c ns vs => some (.inst c ns vs)
 | .dict ks vs => some (.dict ks vs)
 | .cell _ => none
 | .exc _ => none
 | .adict .. => none
noncomputable def HP.del (hp : HP) (a : Addr) : HP := fun b => if b = a then none else hp b
theorem RelX.freeze {h : Heap} {m : Str → Option Value} {mu : Mut} {fo : Led} (X : RelX C Z hp h m mu fo) {a : Addr} {o : O} {v : V} (e : hp a = some o) (hv : frz o = some v) :
  ∃ Z' mu', Z ⊆ Z' ∧ den C.W Z' v (.ref a) ∧ RelX C Z' (hp.del a) h m mu' fo := by
 obtain ⟨key, ob, m1, c1⟩ := X.hp a o e
 obtain ⟨pre, post, rfl⟩ := mut_split m1
 have nd := X.nd
 have e0 : (pre ++ (a, key, ob) :: post).map (·.2) ++ fo = pre.map (·.2) ++ (key, ob) :: (post.map (·.2) ++ fo) := by simp
 have N := X.N
 rw [e0] at nd N
 have e1 : (pre ++ post).map (·.2) ++ fo = pre.map (·.2) ++ (post.map (·.2) ++ fo) := by simp
 have z : Z ⊆ (key, ob) :: Z := fun _ q => .tail _ q
 have pm : (List.map (·.1) (pre.map (·.2) ++ (key, ob) :: (post.map (·.2) ++ fo))).Perm (key :: List.map (·.1) (pre.map (·.2) ++ (post.map (·.2) ++ fo))) := by
  rw [List.map_append, List.map_append, List.map_cons]; exact List.perm_middle
 obtain ⟨n1, n2⟩ := List.nodup_cons.mp (pm.nodup_iff.mp nd)
 refine ⟨(key, ob) :: Z, pre ++ post, z, ?_, X.F, fun p hp => N p ?_, ?_, fun p hp q => ?_, X.pr, fun b ob' eb => ?_⟩
 ·cases o with
  | list l =>
   obtain ⟨rfl, vs, n, rfl, D⟩ := c1
   cases hv
   simp only [den]
   exact ⟨_, _, vs, n, rfl, .inr (.head _), rfl, rfl, D.mono z⟩
  | dict ks vs =>
   obtain ⟨rfl, y, es, n, q1, D⟩ := c1
   cases hv
   simp only [den]
   exact ⟨_, es, n, rfl, y, .inr (q1 ▸ .head _), D.mono z⟩
  | cell w => cases hv
  | exc w => cases hv
  | adict _ _ => cases hv
  | inst c ns vs =>
   obtain ⟨es, n, q1, q2, D⟩ := c1
   cases hv
   simp only [den]
   exact ⟨_, key, es, n, rfl, .inr (.tail _ q2), .inr (q1 ▸ .head _), D.mono z⟩
 ·rw [e1] at hp
  rcases List.mem_append.mp hp with hp | hp
  ·rcases List.mem_cons.mp hp with rfl | hp
   ·exact List.mem_append_right _ (List.mem_append_right _ (.head _))
   ·exact List.mem_append_left _ hp
  ·rcases List.mem_append.mp hp with hp | hp
   ·exact List.mem_append_right _ (List.mem_append_left _ hp)
   ·exact List.mem_append_right _ (List.mem_append_right _ (.tail _ hp))
 ·rw [e1]; exact n2
 ·rw [e1] at q
  rcases List.mem_cons.mp hp with rfl | hp
  ·exact n1 q
  ·refine X.dj p hp ?_
   rw [e0]
   exact pm.mem_iff.mpr (.tail _ q)
 ·unfold HP.del at eb
  by_cases q : b = a
  ·rw [if_pos q] at eb; cases eb
  ·rw [if_neg q] at eb
   obtain ⟨key', ob2, k1, k2⟩ := X.hp b ob' eb
   refine ⟨key', ob2, ?_, k2.mono z⟩
   rcases List.mem_append.mp k1 with k1 | k1
   ·exact List.mem_append_left _ k1
   ·rcases List.mem_cons.mp k1 with k1 | k1
    ·cases k1; exact absurd rfl q
    ·exact List.mem_append_right _ k1
end
end Mine
end
section
open PySem PySem.W PyProof.Rows PySem.Calls
namespace Mine
noncomputable def lookF (n : Str) : List Str → List V → Option V
 | n' :: ns, v :: vs => if n' = n then some v else lookF n ns vs
 | _, _ => none
noncomputable def putF (n : Str) (v : V) : List Str → List V → List Str × List V
 | n' :: ns, w :: vs => if n' = n then (n' :: ns, v :: vs) else (n' :: (putF n v ns vs).1, w :: (putF n v ns vs).2)
 | _, _ => ([n], [v])
theorem isStr_str (a : Str) (t : Tok) (n : Str) : (Value.str a t).isStr n = decide (a = n) := by
 show (a == n) = _
 by_cases h : a = n
 ·subst h; simp
 ·rw [decide_eq_false h]; exact beq_eq_false_iff_ne.mpr h
theorem getL_cons {n n' : Str} {h : Int} {t : Tok} {u : Value} {es : List DictEntry} : getL n (⟨h, .str n' t, u⟩ :: es) = if n' = n then some (some u) else getL n es := by
 unfold getL
 by_cases q : n' = n
 ·simp [isStr_str, q]
 ·simp [isStr_str, q, DictEntry.refKey]
theorem getL_some {W : Wd} {Z : Led} {n : Str} {w : V} : ∀ {ns : List Str} {vs : List V} {es : List DictEntry}, denF W Z ns vs es → lookF n ns vs = some w → ∃ u, getL n es = some (some u) ∧ den W Z w u
 | ns, [], es, d, e => by
  simp only [denF] at d
  obtain ⟨rfl, rfl⟩ := d
  simp [lookF] at e
 | ns, v :: vs, es, d, e => by
  simp only [denF] at d
  obtain ⟨n', ns', h, t, u, es', rfl, rfl, d1, d2⟩ := d
  simp only [lookF] at e
  rw [getL_cons]
  by_cases q : n' = n
  ·rw [if_pos q] at e ⊢
   cases e
   exact ⟨u, rfl, d1⟩
  ·rw [if_neg q] at e ⊢
   exact getL_some d2 e
theorem getL_none {W : Wd} {Z : Led} {n : Str} : ∀ {ns : List Str} {vs : List V} {es : List DictEntry}, denF W Z ns vs es → lookF n ns vs = none → getL n es = some none
 | ns, [], es, d, e => by
  simp only [denF] at d
  obtain ⟨_, rfl⟩ := d
  rfl
 | ns, v :: vs, es, d, e => by
  simp only [denF] at d
  obtain ⟨n', ns', h, t, u, es', rfl, rfl, d1, d2⟩ := d
  simp only [lookF] at e
  rw [getL_cons]
  by_cases q : n' = n
  ·rw [if_pos q] at e; cases e
  ·rw [if_neg q] at e ⊢
   exact getL_none d2 e
theorem getL_isSome {W : Wd} {Z : Led} {n : Str} {ns : List Str} {vs : List V} {es : List DictEntry} (d : denF W Z ns vs es) : (getL n es).isSome = true := by
 cases q : lookF n ns vs with
 | none => rw [getL_none d q]; rfl
 | some w => obtain ⟨u, h, _⟩ := getL_some d q; rw [h]; rfl
theorem putL_den {W : Wd} {Z : Led} {n : Str} {w : V} {u : Value} {hs : Int} {t : Tok} (du : den W Z w u) : ∀ {ns : List Str} {vs : List V} {es : List DictEntry}, denF W Z ns vs es → denF W Z (putF n w ns vs).1 (putF n w ns vs).2 (putL n hs (.str n t) u es)
 | ns, [], es, d => by
  simp only [denF] at d
  obtain ⟨rfl, rfl⟩ := d
  simp only [putF, putL, denF]
  exact ⟨n, [], hs, t, u, [], rfl, rfl, du, rfl, rfl⟩
 | ns, v :: vs, es, d => by
  simp only [denF] at d
  obtain ⟨n', ns', h, t', u', es', rfl, rfl, d1, d2⟩ := d
  have ih := putL_den (hs := hs) (t := t) (n := n) du d2
  simp only [putF]
  unfold putL
  rw [isStr_str]
  by_cases q : n' = n
  ·rw [if_pos q, if_pos (decide_eq_true q)]
   simp only [denF]
   exact ⟨n', ns', h, t', u, es', rfl, rfl, du, d2⟩
  ·rw [if_neg q, if_neg (by rw [decide_eq_false q]; exact Bool.false_ne_true)]
   simp only [denF]
   exact ⟨n', _, h, t', u', _, rfl, rfl, d1, ih⟩
theorem denF_length {W : Wd} {Z : Led} : ∀ {ns : List Str} {vs : List V} {es : List DictEntry}, denF W Z ns vs es → es.length = vs.length
 | ns, [], es, d => by
  simp only [denF] at d
  rw [d.2]; rfl
 | ns, v :: vs, es, d => by
  simp only [denF] at d
  obtain ⟨n', ns', h, t', u', es', rfl, rfl, d1, d2⟩ := d
  rw [List.length_cons, List.length_cons, denF_length d2]
noncomputable def IsInst (hp : HP) (v : V) (c : Addr) (ns : List Str) (vs : List V) : Prop := (∃ a, v = .ref a ∧ hp a = some (.inst c ns vs)) ∨ v = .inst c ns vs
theorem IsInst.m {hp : HP} {a c : Addr} {ns : List Str} {vs : List V} (h : hp a = some (.inst c ns vs)) : IsInst hp (.ref a) c ns vs := .inl ⟨a, rfl, h⟩
theorem IsInst.f {hp : HP} {c : Addr} {ns : List Str} {vs : List V} : IsInst hp (.inst c ns vs) c ns vs := .inr rfl
section
variable {C : Fm} {Z : Led} {hp : HP} {lc : Loc} {x : HP → Prop}
theorem RelX.has {h : Heap} {m : Str → Option Value} {mu : Mut} {fo : Led} (X : RelX C Z hp h m mu fo) {a : Addr} {o : Obj} (H : Has C.W Z a o) : h.get? a = some o :=
 H.elim (X.F.keep a o) fun q => (X.N (a, o) (List.mem_append_left _ q)).1
theorem inst_at {h : Heap} {m : Str → Option Value} {mu : Mut} {fo : Led} (X : RelX C Z hp h m mu fo) {v : V} {u : Value} {c : Addr} {ns : List Str} {vs : List V} (i : IsInst hp v c ns vs) (d : den C.W Z v u) :
  ∃ a dx es n, u = .ref a ∧ InstAt h a (instObj c dx) c (some (dictOf es n)) ∧ denF C.W Z ns vs es := by
 rcases i with ⟨a, rfl, e⟩ | rfl
 ·obtain rfl : u = .ref a := d
  obtain ⟨key, ob, h1, es, n, rfl, h3, h4⟩ := X.hp a _ e
  have g1 := (X.N _ (List.mem_append_left _ h3)).1
  have g2 := (X.N (key, dictOf es n) (List.mem_append_right _ (List.mem_append_left _ (List.mem_map_of_mem h1)))).1
  exact ⟨a, key, es, n, rfl, ⟨g1, rfl, rfl, g2⟩, h4⟩
 ·simp only [den] at d
  obtain ⟨a, dx, es, n, rfl, h1, h2, h3⟩ := d
  exact ⟨a, dx, es, n, rfl, ⟨X.has h1, rfl, rfl, X.has h2⟩, h3⟩
noncomputable def V.handed : V → Bool
 | .raw _ => false
 | _ => true
theorem handed_den {W : Wd} {v : V} {u : Value} (h : v.handed = true) (d : den W Z v u) : handedIn u = true := by
 cases v with
 | raw u => cases h
 | none => obtain rfl : u = .none := d; rfl
 | bool b => obtain rfl : u = .bool b := d; rfl
 | int i => obtain ⟨t, rfl⟩ := d; rfl
 | str l => obtain ⟨t, rfl⟩ := d; rfl
 | ref a => obtain rfl : u = .ref a := d; rfl
 | tup l => simp only [den] at d; obtain ⟨a, _, _, _, rfl, _⟩ := d; rfl
 | lst l => simp only [den] at d; obtain ⟨a, _, _, _, rfl, _⟩ := d; rfl
 | dict l l2 => simp only [den] at d; obtain ⟨a, _, _, rfl, _⟩ := d; rfl
 | inst c a b => simp only [den] at d; obtain ⟨a, _, _, _, rfl, _⟩ := d; rfl
 | rng a b => simp only [den] at d; obtain ⟨a, _, _, _, rfl, _⟩ := d; rfl
structure OwnAt (P : Params) (c : Addr) (n : Str) (attr : Option Value) : Prop where
 pg : plainGet (K P) c n = true
 hd : hasDictIn (K P) c = true
 fi : findIn (K P) (.ref c) n = some attr
 ng : noGet (K P) attr = true
theorem OpAttr.own {v w : V} {c : Addr} {ns : List Str} {vs : List V} {n : Str} {attr : Option Value} {k : V → Loc → HP → Prop} (i : IsInst hp v c ns vs) (o : OwnAt C.W.w.params c n attr) (lk : lookF n ns vs = some w) (hw : w.handed = true) (h : k w lc hp) : OpAttr C v n k x lc hp := by
 intro Z s Q E us ok R d nn y
 simp only [denL] at d
 obtain ⟨u, us', rfl, d1, rfl⟩ := d
 obtain ⟨m, mu, fo, X, l⟩ := id R
 obtain ⟨a, dx, es, n', rfl, I, D⟩ := inst_at X i d1
 obtain ⟨wu, g1, g2⟩ := getL_some D lk
 exact get_own X.F ok.wok.X I o.pg o.hd o.fi o.ng g1 (handed_den hw g2) (nn Z w wu lc hp _ (sub_refl Z) g2 R (Same.mk' s s.heap _) h)
structure ClsAttr (P : Params) (c : Addr) (n : Str) (a : Value) : Prop where
 pg : plainGet (K P) c n = true
 hd : hasDictIn (K P) c = true
 fi : findIn (K P) (.ref c) n = some (some a)
 sg : specialIn (K P) a "__get__" = some none
 ha : handedIn a = true
 cn : copiedNames.contains n = false
theorem OpAttr.cls {v w : V} {c : Addr} {ns : List Str} {vs : List V} {n : Str} {a : Value} {k : V → Loc → HP → Prop} (i : IsInst hp v c ns vs) (o : ClsAttr C.W.w.params c n a) (lk : lookF n ns vs = none) (dw : ∀ Z, den C.W Z w a) (h : k w lc hp) : OpAttr C v n k x lc hp := by
 intro Z s Q E us ok R d nn y
 simp only [denL] at d
 obtain ⟨u, us', rfl, d1, rfl⟩ := d
 obtain ⟨m, mu, fo, X, l⟩ := id R
 obtain ⟨a', dx, es, n', rfl, I, D⟩ := inst_at X i d1
 exact get_cls X.F ok.wok.X I o.pg o.hd o.fi o.sg o.ha o.cn (getL_none D lk) (nn Z w a lc hp _ (sub_refl Z) (dw Z) R (Same.mk' s s.heap _) h)
structure MethAt (P : Params) (c : Addr) (n : Str) (f : Addr) : Prop where
 pg : plainGet (K P) c n = true
 fi : findIn (K P) (.ref c) n = some (some (.ref f))
 fn : isFn (K P) (.ref f) = true
theorem OpMeth.inst {v : V} {c : Addr} {ns : List Str} {vs : List V} {n : Str} {f : Addr} {k : V × List V → Loc → HP → Prop} (i : IsInst hp v c ns vs) (o : MethAt C.W.w.params c n f) (lk : lookF n ns vs = none) (h : k (.ref f, [v]) lc hp) : OpMeth C v n k x lc hp := by
 intro pl Z s Q E us ok R d nn y
 simp only [denL] at d
 obtain ⟨u, us', rfl, d1, rfl⟩ := d
 obtain ⟨m, mu, fo, X, l⟩ := id R
 obtain ⟨a', dx, es, n', rfl, I, D⟩ := inst_at X i d1
 exact method_inst X.F ok.wok.X I o.pg o.fi o.fn (getL_none D lk) (nn Z (.ref f, [v]) _ lc hp _ (sub_refl Z) ⟨rfl, _, _, rfl, d1, rfl⟩ R (Same.refl s) h)
structure StatAt (P : Params) (c : Addr) (n : Str) (p f : Addr) (mc : Value) (rest : List Value) : Prop where
 ga : specialIn (K P) (.ref c) "__getattribute__" = some (some (.builtin "type.__getattribute__"))
 ty : typeIn (K P) (.ref c) = some mc
 rd : readsIn (K P) c mc = true
 fc : findCls (K P) (.ref c) mc n = some (.get (.builtin "staticmethod.__get__") (.ref p) .none (.ref c))
 rc : recIn (K P) p "staticmethod" = some (.ref f :: rest)
theorem OpMeth.stat {c : Addr} {n : Str} {p f : Addr} {mc : Value} {rest : List Value} {k : V × List V → Loc → HP → Prop} (o : StatAt C.W.w.params c n p f mc rest) (h : k (.ref f, []) lc hp) : OpMeth C (.ref c) n k x lc hp := by
 intro pl Z s Q E us ok R d nn y
 simp only [denL] at d
 obtain ⟨u, us', rfl, d1, rfl⟩ := d
 obtain ⟨m, mu, fo, X, l⟩ := id R
 obtain rfl : u = .ref c := d1
 exact method_of_cls X.F ok.wok.X o.ga (cls_sm X.F ok.wok.X o.ty o.rd o.fc o.rc rfl (nn Z (.ref f, []) _ lc hp _ (sub_refl Z) ⟨rfl, rfl⟩ R (Same.mk' s s.heap _) h))
structure SetAt (P : Params) (c : Addr) (n : Str) : Prop where
 sa : findIn (K P) (.ref c) "__setattr__" = some (some (.builtin "object.__setattr__"))
 po : plainOver (K P) c = true
 tk : takerIn (K P) c n = some none
 hd : hasDictIn (K P) c = true
theorem upd_mid {d : Addr} {o o' : Obj} : ∀ (pre post : List (Addr × Obj)), (∀ p ∈ pre, p.1 ≠ d) → (∀ p ∈ post, p.1 ≠ d) → Upd d o o' (pre ++ (d, o) :: post) (pre ++ (d, o') :: post)
 | [], post, _, h => Upd.head h
 | p :: pre, post, h1, h2 => Upd.tail (h1 p (.head _)) (upd_mid pre post (fun q hq => h1 q (.tail _ hq)) h2)
theorem OpSetAttr.own {a c : Addr} {ns : List Str} {vs : List V} {n : Str} {w : V} {k : Unit → Loc → HP → Prop} (i : hp a = some (.inst c ns vs)) (o : SetAt C.W.w.params c n) (hz : vs.length ≤ 900)
  (h : k () lc (hp.set a (.inst c (putF n w ns vs).1 (putF n w ns vs).2))) : OpSetAttr C (.ref a) n w k x lc hp := by
 intro Z s Q E us ok R d nn y
 simp only [denL] at d
 obtain ⟨u, us', rfl, d1, wu, us2, rfl, d2, rfl⟩ := d
 obtain ⟨m, mu, fo, X, l⟩ := R
 obtain rfl : u = .ref a := d1
 obtain ⟨key, ob, h1, es, ne, rfl, h3, h4⟩ := X.hp a _ i
 have g1 := (X.N _ (List.mem_append_left _ h3)).1
 have g2 := (X.N (key, dictOf es ne) (List.mem_append_right _ (List.mem_append_left _ (List.mem_map_of_mem h1)))).1
 obtain ⟨pre, post, rfl⟩ := mut_split h1
 have nd := X.nd
 have e0 : ∀ ob, (pre ++ (a, key, ob) :: post).map (·.2) ++ fo = pre.map (·.2) ++ (key, ob) :: (post.map (·.2) ++ fo) := fun ob => by simp
 have N := X.N
 rw [e0] at nd N
 rw [List.map_append, List.map_cons] at nd
 have q1 : ∀ p ∈ Z ++ pre.map (·.2), p.1 ≠ key := fun p hp q => by
  rcases List.mem_append.mp hp with hp | hp
  ·refine X.dj p hp ?_
   rw [e0, List.map_append, List.map_cons, q]
   exact List.mem_append_right _ (.head _)
  ·exact (List.nodup_append.mp nd).2.2 _ (List.mem_map_of_mem hp) _ (.head _) q
 have q2 : ∀ p ∈ post.map (·.2) ++ fo, p.1 ≠ key := fun p hp q => by
  have := (List.nodup_cons.mp (List.nodup_append.mp nd).2.1).1
  have z : p.1 ∈ (post.map (·.2) ++ fo).map (·.1) := List.mem_map_of_mem hp
  rw [q] at z
  exact this z
 rw [← List.append_assoc] at N
 have hl : (putL n (PyData.keyHash C.W.w.params n) (.str n (s.toks + 1)) wu es).length ≤ 1000 := by
  have hd := putL_den (hs := PyData.keyHash C.W.w.params n) (t := s.toks + 1) (n := n) d2 h4
  rw [denF_length hd]
  have : ∀ (ns : List Str) (vs : List V), (putF n w ns vs).2.length ≤ vs.length + 1 := by
   intro ns vs
   induction vs generalizing ns with
   | nil => cases ns <;> simp [putF]
   | cons v vs ih =>
    cases ns with
    | nil => simp [putF]
    | cons n' ns =>
     simp only [putF]
     split
     ·simp
     ·have := ih ns; simp only [List.length_cons]; exact oo4 this
  have := this ns vs
  exact ok4 this hz
 refine set_dict X.F ok.wok.X N ⟨g1, rfl, rfl, g2⟩ rfl o.sa o.po o.tk o.hd (getL_isSome h4) rfl (upd_mid _ _ q1 q2) hl fun h' F' N' => ?_
 rw [List.append_assoc] at N'
 refine nn Z () () lc _ _ (sub_refl Z) trivial ⟨m, pre ++ (a, key, _) :: post, fo, ⟨F', by rw [e0]; exact N', ?_, fun p hp q => ?_, X.pr, fun b ob eb => ?_⟩, l⟩ (Same.mk' s h' _) h
 ·rw [e0, List.map_append, List.map_cons]; exact nd
 ·refine X.dj p hp ?_
  rw [e0, List.map_append, List.map_cons] at q ⊢
  exact q
 ·unfold HP.set at eb
  by_cases q : b = a
  ·rw [if_pos q] at eb; cases eb; subst q
   exact ⟨key, _, List.mem_append_right _ (.head _), _, _, rfl, h3, putL_den d2 h4⟩
  ·rw [if_neg q] at eb
   obtain ⟨key', ob2, k1, k2⟩ := X.hp b ob eb
   refine ⟨key', ob2, ?_, k2⟩
   rcases List.mem_append.mp k1 with k1 | k1
   ·exact List.mem_append_left _ k1
   ·rcases List.mem_cons.mp k1 with k1 | k1
    ·cases k1; exact absurd rfl q
    ·exact List.mem_append_right _ (.tail _ k1)
theorem OpCall.cls {c fI : Addr} {fd : FuncData} {body : List Stmt} {ns : List Str} {nv : Nat} {vs ds : List V} {dvs : List Value} (rm : Nat) {k : V → Loc → HP → Prop}
  (hm : makesIn (K C.W.w.params) c = true) (hi : findIn (K C.W.w.params) (.ref c) "__init__" = some (some (.ref fI))) (hfn : isFn (K C.W.w.params) (.ref fI) = true)
  (G : FnOk C.W.w.params fI fd body ns nv dvs) (G2 : FnLoc fd ns) (hnv : vs.length + 1 = nv) (hds : ∀ Z, denL C.W Z ds dvs)
  (hrm : rm + 1 < C.rm)
  (hb : ∀ a, hp a = none → ∀ C', Callee C C' fd rm → SXs C' body (fun fl _ hp' => retV fl = .none ∧ k (.ref a) lc hp') x (ns.zip (.ref a :: vs ++ ds)) (hp.set a (.inst c [] []))) : OpCall C (.ref c) vs k x lc hp := by
 intro Z s Q E us ok R d n y
 simp only [denL] at d
 obtain ⟨fu, us', rfl, d1, d2⟩ := d
 obtain rfl : fu = .ref c := d1
 obtain ⟨m, mu, fo, X, l⟩ := R
 have h1 := ok.depth
 have h2 := ok.units
 refine call_cls X.F ok.wok.X X.N hm hi hfn fun a dx h' F' N' l1 l2 => ?_
 have lt : ∀ b o, hp b = some o → b < dx := fun b o e => by
  obtain ⟨key, ob, k1, k2⟩ := X.hp b o e
  have g := l1 (key, ob) (List.mem_append_right _ (List.mem_append_left _ (List.mem_map_of_mem k1)))
  cases o with
  | list l => obtain ⟨rfl, _⟩ := k2; exact g
  | dict ks vs => obtain ⟨rfl, _⟩ := k2; exact g
  | cell v => obtain ⟨rfl, _⟩ := k2; exact g
  | exc v => obtain ⟨rfl, _⟩ := k2; exact g
  | adict v _ => obtain ⟨rfl, _⟩ := k2; exact g
  | inst c' ns' vs' =>
   obtain ⟨_, _, _, q, _⟩ := k2
   exact l1 _ (List.mem_append_left _ q)
 have hna : hp a = none := by
  cases q : hp a with
  | none => rfl
  | some o => exact absurd (Nat.lt_trans (lt a o q) l2) (Nat.lt_irrefl _)
 have z : Z ⊆ (a, instObj c dx) :: Z := fun _ q => .tail _ q
 have kl : ∀ q ∈ kys mu fo, q < dx := fun q hq => by
  obtain ⟨p, hp, rfl⟩ := List.mem_map.mp hq
  exact l1 p (List.mem_append_right _ hp)
 have R1 : Rel C ((a, instObj c dx) :: Z) lc (hp.set a (.inst c [] [])) h' := by
  refine ⟨m, (a, dx, dictOf [] 0) :: mu, fo, ⟨F', fun p hp => N' p ?_, ?_, fun p hp q => ?_, X.pr, fun b ob eb => ?_⟩, l.mono z⟩
  ·rcases List.mem_append.mp hp with hp | hp
   ·rcases List.mem_cons.mp hp with rfl | hp
    ·exact .head _
    ·exact .tail _ (.tail _ (List.mem_append_left _ hp))
   ·rcases List.mem_cons.mp hp with rfl | hp
    ·exact .tail _ (.head _)
    ·exact .tail _ (.tail _ (List.mem_append_right _ hp))
  ·exact List.nodup_cons.mpr ⟨fun q => Nat.lt_irrefl _ (kl _ q), X.nd⟩
  ·rcases List.mem_cons.mp q with q | q
   ·rcases List.mem_cons.mp hp with rfl | hp
    ·have q' : a = dx := q
     rw [q'] at l2
     exact Nat.lt_irrefl _ l2
    ·have := l1 p (List.mem_append_left _ hp)
     have q' : p.1 = dx := q
     rw [q'] at this
     exact Nat.lt_irrefl _ this
   ·rcases List.mem_cons.mp hp with rfl | hp
    ·exact Nat.lt_irrefl _ (Nat.lt_trans (kl _ q) l2)
    ·exact X.dj p hp q
  ·unfold HP.set at eb
   by_cases q : b = a
   ·rw [if_pos q] at eb; cases eb; subst q
    exact ⟨dx, _, .head _, [], 0, rfl, .head _, ⟨rfl, rfl⟩⟩
   ·rw [if_neg q] at eb
    obtain ⟨key', ob2, k1, k2⟩ := X.hp b ob eb
    exact ⟨key', ob2, .tail _ k1, k2.mono z⟩
 refine code_fn (A1 := C.A.under (.builtin "type.__call__" ⟨.ref c :: us', []⟩)) (C := C) (vs := .ref a :: vs) (us := .ref a :: us') (Z := (a, instObj c dx) :: Z) (hp := hp.set a (.inst c [] [])) (lc := lc) (x := x) (k := fun v hp' => v = .none ∧ k (.ref a) lc hp')
  ok ?_ rfl ?_ ?_ G G2 hnv hds R1 ⟨_, _, rfl, rfl, d2.mono z⟩ (hb a hna) ?_ ?_
 ·have e1 : (C.A.under (.builtin "type.__call__" ⟨.ref c :: us', []⟩)).frames = pushEnvs (Code.envs (.builtin "type.__call__" ⟨.ref c :: us', []⟩)) C.A.frames := rfl
  rw [e1, ok.hfr]; rfl
 ·show C.A.depth + 1 + rm + 1 < _; exact oq2 hrm h1
 ·have e2 : (C.A.under (.builtin "type.__call__" ⟨.ref c :: us', []⟩)).units = C.A.units + 1 := rfl
  rw [e2]; exact of1 hrm h2
 ·intro Z' v u hp' s' z' dv R' sm kk
  obtain ⟨rfl, kk⟩ := kk
  obtain rfl : u = .none := dv
  exact ⟨rfl, n Z' (.ref a) _ lc hp' s' (fun _ q => z' (z q)) rfl R' ((Same.mk' s h' s.toks).trans sm) kk⟩
 ·intro Z' e hp' s' z' ex sm xx
  exact y Z' e hp' s' (fun _ q => z' (z q)) ex ((Same.mk' s h' s.toks).trans sm) xx
end
end Mine
end
section
open PySem PySem.W PyProof.Rows PySem.Calls
namespace Mine
inductive CallOk (P : Params) : V → Prop
 | ref {a : Addr} : keepIn (K P) (.ref a) = true → CallOk P (.ref a)
 | bi {id : String} : CallOk P (.raw (.builtin id))
 | ty {T : String} : CallOk P (.raw (.type T))
noncomputable def PlainArgs (env : Env) : List PySem.Expr → Prop
 | [] => True
 | e :: r => starEach (e :: r) env = (false, eval e env) :: starEach r env ∧ ∀ pos, (backTo pos (starEach r env)).any (·.1) = false
section
variable {M : Model} {A : Around} {E : Value → Shared → Prop} {s : Shared}
theorem evalArgs_sl {f : Value} {pos : Pos} {env : Env} {Q : Args → Shared → Prop} : ∀ {args : List PySem.Expr}, PlainArgs env args → wpAny M A (spliced (backTo pos (starEach args env))) (fun vs s' => Q ⟨vs, []⟩ s') E s →
  wpAny M A (evalArgs f true (backTo pos (starEach args env)) []) Q E s
 | [], _, h => by
  unfold evalArgs
  show wpAny M A (spliced [] >>= _) Q E s
  refine wpAny_bind (wpAny_mono h (fun vs s' h' => ?_) fun _ _ x => x)
  refine wpAny_bind (wpAny_pure ?_)
  refine wpAny_holding ?_
  exact wpAny_bind (wpAny_pure (wpAny_bind (wpAny_pure (wpAny_pure h'))))
 | e :: r, p, h => by
  rw [p.1] at h ⊢
  exact evalArgs_plain h
theorem plain_any {pos : Pos} {env : Env} : ∀ {args : List PySem.Expr}, PlainArgs env args → (backTo pos (starEach args env)).any (·.1) = false
 | [], _ => rfl
 | e :: r, p => by rw [p.1]; show (false || _) = false; rw [Bool.false_or]; exact p.2 pos
theorem callWith_ok {W : Wd} {Z : Led} {f : V} {u : Value} (c : CallOk W.w.params f) (d : den W Z f u) {pos : Pos} {env : Env} {first : List Value} {args : List PySem.Expr} (pa : PlainArgs env args) {Q : Value → Shared → Prop}
  (h : wpAny M A (spliced (backTo pos (starEach args env))) (fun vs s₁ => (K W.w.params).In s₁.heap ∧ wpAny M A (call u (first ++ vs)) Q E s₁) E s) : wpAny M A (callWith pos u first (backTo pos (starEach args env)) []) Q E s := by
 cases c with
 | ref hk =>
  obtain rfl : u = _ := d
  exact callWith_of (P := (K W.w.params).In) (by rw [plain_any pa]; rfl) (keeps_K hk) (evalArgs_sl pa h)
 | bi =>
  obtain rfl : u = _ := d
  exact callWith_builtin (plain_any pa) (evalArgs_sl pa (wpAny_mono h (fun _ _ x => x.2) fun _ _ x => x))
 | ty =>
  obtain rfl : u = _ := d
  exact PyProof.Rows.callWith_type (plain_any pa) (evalArgs_sl pa (wpAny_mono h (fun _ _ x => x.2) fun _ _ x => x))
end
section
variable {C : Fm} {x : HP → Prop} {lc : Loc} {hp : HP} {k : V → Loc → HP → Prop}
theorem Rel.inK {C : Fm} {Z : Led} {lc : Loc} {hp : HP} {h : Heap} (ok : FmOk C) (R : Rel C Z lc hp h) : (K C.W.w.params).In h := let ⟨_, _, _, X, _⟩ := R; ok.wok.X.keeps X.F.keep
theorem SE.call {func : PySem.Expr} {args : List PySem.Expr} {pos : Pos}
  (h : SE C func (fun f lc hp => CallOk C.W.w.params f ∧ SL C args pos (fun vs lc hp => OpCall C f vs k x lc hp) x lc hp) x lc hp)
  (he : eval (.Call func args [] pos) C.env = (do callWith pos (← eval func C.env) [] (backTo pos (starEach args C.env)) (backToKw pos (keywordEach [] C.env))))
  (pa : PlainArgs C.env args) : SE C (.Call func args [] pos) k x lc hp := by
 intro Z s Q E us ok R d nn y
 refine Call_ (h Z s _ _ us ok R d ?_ y) he
 intro Z1 f a lc1 hp1 s1 z1 r1 R1 e1 h1
 refine callWith_ok h1.1 r1 pa (h1.2 Z1 s1 _ _ [] ok R1 rfl ?_ (y.step z1 e1))
 intro Z2 vs a2 lc2 hp2 s2 z2 r2 R2 e2 h2
 exact ⟨R2.inK ok, h2 Z2 s2 _ _ (a :: a2) ok R2 ⟨a, a2, rfl, r1.mono z2, r2⟩ ((nn.step z1 e1).step z2 e2) ((y.step z1 e1).step z2 e2)⟩
theorem SE.mcall {o : PySem.Expr} {name : Str} {args : List PySem.Expr} {apos pos : Pos} {pl : Sem Bool}
  (h : SE C o (fun ov lc hp => OpMeth C ov name (fun fp lc hp => CallOk C.W.w.params fp.1 ∧ SL C args pos (fun vs lc hp => OpCall C fp.1 (fp.2 ++ vs) k x lc hp) x lc hp) x lc hp) x lc hp)
  (he : eval (.Call (.Attribute o name apos) args [] pos) C.env = (do
   let ov ← eval o C.env
   standAt apos.atName
   let (f, first) ← holding [ov] (getMethod ov name pl)
   callWith pos f first (backTo pos (starEach args C.env)) []))
  (pa : PlainArgs C.env args) : SE C (.Call (.Attribute o name apos) args [] pos) k x lc hp := by
 intro Z s Q E us ok R d nn y
 refine MethodCall_ (h Z s _ _ us ok R d ?_ y) he
 intro Z1 ov a lc1 hp1 s1 z1 r1 R1 e1 h1
 refine h1 pl Z1 s1 _ _ [a] ok R1 ⟨a, [], rfl, r1, rfl⟩ ?_ (y.step z1 e1)
 intro Z2 fp q lc2 hp2 s2 z2 r2 R2 e2 h2
 obtain ⟨c2, h2⟩ := h2
 refine callWith_ok c2 r2.1 pa (h2 Z2 s2 _ _ [] ok R2 rfl ?_ ((y.step z1 e1).step z2 e2))
 intro Z3 vs a3 lc3 hp3 s3 z3 r3 R3 e3 h3
 exact ⟨R3.inK ok, h3 Z3 s3 _ _ (q.1 :: (q.2 ++ a3)) ok R3 ⟨q.1, _, rfl, r2.1.mono z3, denL_append (r2.2.mono z3) r3⟩ (((nn.step z1 e1).step z2 e2).step z3 e3) (((y.step z1 e1).step z2 e2).step z3 e3)⟩
theorem den2 {W : Wd} {Z : Led} {a b : V} {us : List Value} (d : denL W Z [a, b] us) : ∃ u v, us = [u, v] ∧ den W Z a u ∧ den W Z b v := by
 simp only [denL] at d
 obtain ⟨u, _, rfl, d1, v, _, rfl, d2, rfl⟩ := d
 exact ⟨u, v, rfl, d1, d2⟩
theorem den1 {W : Wd} {Z : Led} {a : V} {us : List Value} (d : denL W Z [a] us) : ∃ u, us = [u] ∧ den W Z a u := by
 simp only [denL] at d
 obtain ⟨u, _, rfl, d1, rfl⟩ := d
 exact ⟨u, rfl, d1⟩
theorem OpBin.addI {i j : Int} (h : k (.int (i + j)) lc hp) : OpBin C .Add (.int i) (.int j) k x lc hp := by
 intro Z s Q E us ok R d nn y
 obtain ⟨_, _, rfl, ⟨t, rfl⟩, ⟨t', rfl⟩⟩ := den2 d
 exact add_int (nn Z (.int _) _ lc hp _ (sub_refl Z) ⟨_, rfl⟩ R (Same.mk' ..) h)
theorem OpBin.subI {i j : Int} (h : k (.int (i - j)) lc hp) : OpBin C .Sub (.int i) (.int j) k x lc hp := by
 intro Z s Q E us ok R d nn y
 obtain ⟨_, _, rfl, ⟨t, rfl⟩, ⟨t', rfl⟩⟩ := den2 d
 exact sub_int (nn Z (.int _) _ lc hp _ (sub_refl Z) ⟨_, rfl⟩ R (Same.mk' ..) h)
theorem OpBin.mulI {i j : Int} (hm : IntMulOk i j) (h : k (.int (i * j)) lc hp) : OpBin C .Mult (.int i) (.int j) k x lc hp := by
 intro Z s Q E us ok R d nn y
 obtain ⟨_, _, rfl, ⟨t, rfl⟩, ⟨t', rfl⟩⟩ := den2 d
 exact PyProof.Rows.mul_int (nn Z (.int _) _ lc hp _ (sub_refl Z) ⟨_, rfl⟩ R (Same.mk' ..) h) hm
theorem OpBin.modI {i j : Int} (h0 : j ≠ 0) (h : k (.int (i.fmod j)) lc hp) : OpBin C .Mod (.int i) (.int j) k x lc hp := by
 intro Z s Q E us ok R d nn y
 obtain ⟨_, _, rfl, ⟨t, rfl⟩, ⟨t', rfl⟩⟩ := den2 d
 exact mod_int' h0 (nn Z (.int _) _ lc hp _ (sub_refl Z) ⟨_, rfl⟩ R (Same.mk' ..) h)
theorem OpBin.divI {i j : Int} (h0 : j ≠ 0) (hd : Builtin.divisionGoesByPylong i j = false) (h : k (.int (i.fdiv j)) lc hp) : OpBin C .FloorDiv (.int i) (.int j) k x lc hp := by
 intro Z s Q E us ok R d nn y
 obtain ⟨_, _, rfl, ⟨t, rfl⟩, ⟨t', rfl⟩⟩ := den2 d
 exact floordiv_int h0 (nn Z (.int _) _ lc hp _ (sub_refl Z) ⟨_, rfl⟩ R (Same.mk' ..) h) (.inl hd)
theorem OpCmp.ltI {i j : Int} (h : k (.bool (decide (i < j))) lc hp) : OpCmp C .Lt (.int i) (.int j) k x lc hp := by
 intro Z s Q E us ok R d nn y
 obtain ⟨_, _, rfl, ⟨t, rfl⟩, ⟨t', rfl⟩⟩ := den2 d
 exact lt_int (nn Z (.bool _) _ lc hp _ (sub_refl Z) rfl R (Same.refl ..) h)
theorem OpCmp.leI {i j : Int} (h : k (.bool (decide (i ≤ j))) lc hp) : OpCmp C .LtE (.int i) (.int j) k x lc hp := by
 intro Z s Q E us ok R d nn y
 obtain ⟨_, _, rfl, ⟨t, rfl⟩, ⟨t', rfl⟩⟩ := den2 d
 exact le_int (nn Z (.bool _) _ lc hp _ (sub_refl Z) rfl R (Same.refl ..) h)
theorem OpCmp.gtI {i j : Int} (h : k (.bool (decide (j < i))) lc hp) : OpCmp C .Gt (.int i) (.int j) k x lc hp := by
 intro Z s Q E us ok R d nn y
 obtain ⟨_, _, rfl, ⟨t, rfl⟩, ⟨t', rfl⟩⟩ := den2 d
 exact gt_int (nn Z (.bool _) _ lc hp _ (sub_refl Z) rfl R (Same.refl ..) h)
theorem OpCmp.geI {i j : Int} (h : k (.bool (decide (j ≤ i))) lc hp) : OpCmp C .GtE (.int i) (.int j) k x lc hp := by
 intro Z s Q E us ok R d nn y
 obtain ⟨_, _, rfl, ⟨t, rfl⟩, ⟨t', rfl⟩⟩ := den2 d
 exact ge_int (nn Z (.bool _) _ lc hp _ (sub_refl Z) rfl R (Same.refl ..) h)
theorem OpCmp.eqI {i j : Int} (h : k (.bool (i == j)) lc hp) : OpCmp C .Eq (.int i) (.int j) k x lc hp := by
 intro Z s Q E us ok R d nn y
 obtain ⟨_, _, rfl, ⟨t, rfl⟩, ⟨t', rfl⟩⟩ := den2 d
 exact eq_int (nn Z (.bool _) _ lc hp _ (sub_refl Z) rfl R (Same.refl ..) h)
theorem OpCmp.neI {i j : Int} (h : k (.bool (i != j)) lc hp) : OpCmp C .NotEq (.int i) (.int j) k x lc hp := by
 intro Z s Q E us ok R d nn y
 obtain ⟨_, _, rfl, ⟨t, rfl⟩, ⟨t', rfl⟩⟩ := den2 d
 exact ne_int (nn Z (.bool _) _ lc hp _ (sub_refl Z) rfl R (Same.refl ..) h)
theorem OpUn.neg {i : Int} (h : k (.int (-i)) lc hp) : OpUn C .USub (.int i) k x lc hp := by
 intro Z s Q E us ok R d nn y
 obtain ⟨_, rfl, ⟨t, rfl⟩⟩ := den1 d
 exact neg_int (nn Z (.int _) _ lc hp _ (sub_refl Z) ⟨_, rfl⟩ R (Same.mk' ..) h)
theorem OpUn.not {a : V} (h : OpTruth C a (fun b lc hp => k (.bool !b) lc hp) x lc hp) : OpUn C .Not a k x lc hp := by
 intro Z s Q E us ok R d nn y
 obtain ⟨u, rfl, d1⟩ := den1 d
 exact not_of (h Z s _ _ [u] ok R ⟨u, [], rfl, d1, rfl⟩ (fun Z' b a lc' hp' s' z r R' y' kk => by subst r; exact nn Z' (.bool _) _ lc' hp' s' z rfl R' y' kk) y)
theorem str_beq (a b : List Nat) : ((⟨a.toArray⟩ : Str) == ⟨b.toArray⟩) = (a == b) := by
 rw [Bool.eq_iff_iff, beq_iff_eq, beq_iff_eq]
 constructor
 ·intro e; injection e with e; simpa using e
 ·rintro rfl; rfl
theorem str_bne (a b : List Nat) : ((⟨a.toArray⟩ : Str) != ⟨b.toArray⟩) = (a != b) := by
 simp only [bne, str_beq]
theorem OpCmp.eqS {a b : List Nat} (h : k (.bool (a == b)) lc hp) : OpCmp C .Eq (.str a) (.str b) k x lc hp := by
 intro Z s Q E us ok R d nn y
 obtain ⟨_, _, rfl, ⟨t, rfl⟩, ⟨t', rfl⟩⟩ := den2 d
 refine eq_str (nn Z (.bool (a == b)) _ lc hp _ (sub_refl Z) ?_ R (Same.refl ..) h)
 show Value.bool _ = _
 rw [str_beq]
theorem OpCmp.neS {a b : List Nat} (h : k (.bool (a != b)) lc hp) : OpCmp C .NotEq (.str a) (.str b) k x lc hp := by
 intro Z s Q E us ok R d nn y
 obtain ⟨_, _, rfl, ⟨t, rfl⟩, ⟨t', rfl⟩⟩ := den2 d
 refine ne_str (nn Z (.bool (a != b)) _ lc hp _ (sub_refl Z) ?_ R (Same.refl ..) h)
 show Value.bool _ = _
 rw [str_bne]
theorem OpBin.addS {a b : List Nat} (hz : a.length + b.length ≤ sizeLine) (h : k (.str (a ++ b)) lc hp) : OpBin C .Add (.str a) (.str b) k x lc hp := by
 intro Z s Q E us ok R d nn y
 obtain ⟨_, _, rfl, ⟨t, rfl⟩, ⟨t', rfl⟩⟩ := den2 d
 refine SBL.add (fun t' kk _ => nn Z (.str (a ++ b)) _ lc hp _ (sub_refl Z) ⟨t', ?_⟩ R (Same.mk' ..) h) (by simpa [Str.length] using hz)
 show Value.str (⟨a.toArray ++ b.toArray⟩ : Str) _ = _
 rw [List.append_toArray]
theorem OpCall.len {a : List Nat} (hz : a.length < 9223372036854775808) (h : k (.int a.length) lc hp) : OpCall C (.raw (.builtin "len")) [.str a] k x lc hp := by
 intro Z s Q E us ok R d nn y
 obtain ⟨_, _, rfl, rfl, ⟨t, rfl⟩⟩ := den2 d
 exact SBL.len (by simp only [Str.length, List.size_toArray]; exact ox10 hz) (nn Z (.int a.length) _ lc hp _ (sub_refl Z) ⟨s.toks + 1, by simp [Str.length]⟩ R (Same.mk' ..) h)
theorem OpTruth.bool {b : Bool} {kb : Bool → Loc → HP → Prop} (h : kb b lc hp) : OpTruth C (.bool b) kb x lc hp := by
 intro Z s Q E us ok R d nn y
 obtain ⟨_, rfl, rfl⟩ := den1 d
 exact wpAny_truthy_bool (nn Z b _ lc hp _ (sub_refl Z) rfl R (Same.refl ..) h)
theorem OpCall.ord {c : Nat} (h : k (.int c) lc hp) : OpCall C (.raw (.builtin "ord")) [.str [c]] k x lc hp := by
 intro Z s Q E us ok R d nn y
 obtain ⟨_, _, rfl, rfl, ⟨t, rfl⟩⟩ := den2 d
 exact P.ord_of_char (nn Z (.int c) _ lc hp _ (sub_refl Z) ⟨_, rfl⟩ R (Same.mk' ..) h)
theorem OpCall.chr {i : Int} (h1 : 0 ≤ i) (h2 : i ≤ 1114111) (h : k (.str [i.toNat]) lc hp) : OpCall C (.raw (.builtin "chr")) [.int i] k x lc hp := by
 intro Z s Q E us ok R d nn y
 obtain ⟨_, _, rfl, rfl, ⟨t, rfl⟩⟩ := den2 d
 exact P.chr_of_int (by simp; exact os12 h2 h1) (nn Z (.str [i.toNat]) _ lc hp _ (sub_refl Z) ⟨_, rfl⟩ R (Same.mk' ..) h)
theorem OpCall.max2 {a b : Int} (h : k (.int (Max.max a b)) lc hp) : OpCall C (.raw (.builtin "max")) [.int a, .int b] k x lc hp := by
 intro Z s Q E us ok R d nn y
 simp only [denL] at d
 obtain ⟨_, _, rfl, rfl, _, _, rfl, ⟨t, rfl⟩, _, _, rfl, ⟨t', rfl⟩, rfl⟩ := d
 obtain ⟨m, mu, fo, X, l⟩ := R
 refine max_two_N ok.hand X.F X.N fun h' tk F' N' => nn Z (.int (Max.max a b)) _ lc hp _ (sub_refl Z) ⟨if b > a then t' else t, ?_⟩ ⟨m, mu, fo, ⟨F', N', X.nd, X.dj, X.pr, X.hp⟩, l⟩ (Same.mk' ..) h
 congr 1
 simp only [Int.max_def]
 split <;> split <;> omega
theorem OpCall.min2 {a b : Int} (h : k (.int (Min.min a b)) lc hp) : OpCall C (.raw (.builtin "min")) [.int a, .int b] k x lc hp := by
 intro Z s Q E us ok R d nn y
 simp only [denL] at d
 obtain ⟨_, _, rfl, rfl, _, _, rfl, ⟨t, rfl⟩, _, _, rfl, ⟨t', rfl⟩, rfl⟩ := d
 obtain ⟨m, mu, fo, X, l⟩ := R
 refine min_two_N ok.hand X.F X.N fun h' tk F' N' => nn Z (.int (Min.min a b)) _ lc hp _ (sub_refl Z) ⟨if b < a then t' else t, ?_⟩ ⟨m, mu, fo, ⟨F', N', X.nd, X.dj, X.pr, X.hp⟩, l⟩ (Same.mk' ..) h
 congr 1
 simp only [Int.min_def]
 split <;> split <;> omega
end
end Mine
end
section
open PySem PySem.W PyProof.Rows PySem.Calls
namespace Mine
noncomputable def IsLst (hp : HP) (v : V) (l : List V) : Prop := (∃ a, v = .ref a ∧ hp a = some (.list l)) ∨ v = .lst l
theorem IsLst.m {hp : HP} {a : Addr} {l : List V} (h : hp a = some (.list l)) : IsLst hp (.ref a) l := .inl ⟨a, rfl, h⟩
theorem IsLst.f {hp : HP} {l : List V} : IsLst hp (.lst l) l := .inr rfl
theorem subOk (slice : PySem.Expr) (o i : Value) : ∃ ops, subscripted slice false o i = operate ops (getItem o i) := by
 unfold subscripted
 split
 ·exact ⟨_, rfl⟩
 ·rename_i h; cases h
 ·exact ⟨_, rfl⟩
section
variable {C : Fm} {x : HP → Prop} {lc : Loc} {hp : HP} {k : V → Loc → HP → Prop}
theorem lst_at {Z : Led} {h : Heap} {m : Str → Option Value} {mu : Mut} {fo : Led} (X : RelX C Z hp h m mu fo) {v : V} {u : Value} {l : List V} (i : IsLst hp v l) (d : den C.W Z v u) :
  ∃ a items, u = .ref a ∧ h.IsList a items ∧ denL C.W Z l items.toList := by
 rcases i with ⟨a, rfl, e⟩ | rfl
 ·obtain rfl : u = .ref a := d
  obtain ⟨key, ob, m1, rfl, vs, n, rfl, D⟩ := X.hp a _ e
  have g := (X.N (key, listOf vs n) (List.mem_append_right _ (List.mem_append_left _ (List.mem_map_of_mem m1)))).1
  exact ⟨key, vs, rfl, ⟨_, g, rfl, n, rfl⟩, D⟩
 ·simp only [den] at d
  obtain ⟨a, o, vs, n, rfl, H, c, dd, D⟩ := d
  exact ⟨a, vs, rfl, ⟨o, X.has H, c, n, dd⟩, D⟩
theorem tup_at {Z : Led} {h : Heap} {m : Str → Option Value} {mu : Mut} {fo : Led} (X : RelX C Z hp h m mu fo) {u : Value} {l : List V} (d : den C.W Z (.tup l) u) :
  ∃ a items, u = .ref a ∧ IsTup h a items ∧ denL C.W Z l items.toList := by
 simp only [den] at d
 obtain ⟨a, o, vs, n, rfl, H, c, dd, D⟩ := d
 exact ⟨a, vs, rfl, ⟨o, X.has H, c, n, dd⟩, D⟩
theorem denL_size {W : Wd} {Z : Led} {l : List V} {items : Array Value} (d : denL W Z l items.toList) : items.size = l.length := by rw [← Array.length_toList]; exact denL_length d
theorem denL_at {W : Wd} {Z : Led} {l : List V} {items : Array Value} (d : denL W Z l items.toList) {i : Nat} {y : V} (e : l[i]? = some y) : ∃ u, items[i]? = some u ∧ den W Z y u := by
 obtain ⟨u, h1, h2⟩ := denL_get d i y e
 exact ⟨u, by simpa using h1, h2⟩
noncomputable def at? {α : Type} (l : List α) (i : Int) : Option α := if i < 0 then (if -(l.length : Int) ≤ i then l[(i + l.length).toNat]? else none) else l[i.toNat]?
theorem OpSub.lst {value slice : PySem.Expr} {v y : V} {l : List V} {i : Int} (il : IsLst hp v l) (hz : l.length < 9223372036854775808) (e : at? l i = some y) (h : k y lc hp) : OpSub C value slice v (.int i) k x lc hp := by
 intro Z s Q E us ok R d nn yy
 obtain ⟨u, _, rfl, du, ⟨t, rfl⟩⟩ := den2 d
 obtain ⟨m, mu, fo, X, lo⟩ := id R
 obtain ⟨a, items, rfl, L, D⟩ := lst_at X il du
 obtain ⟨ops, hs⟩ := subOk slice (.ref a) (.int i t)
 have sz := denL_size D
 unfold at? at e
 refine tail_any L.typeIs slot_list_getitem.lookup ?_ hs
 by_cases h0 : i < 0
 ·rw [if_pos h0] at e
  by_cases h1 : -(l.length : Int) ≤ i
  ·rw [if_pos h1] at e
   obtain ⟨w, e1, e2⟩ := denL_at D e
   exact wpAny_getItem_list_neg L h0 (by exact ow3 sz h1) (by omega) (by rw [sz]; exact e1) (nn Z y w lc hp _ (sub_refl Z) e2 R (Same.refl ..) h)
  ·rw [if_neg h1] at e; cases e
 ·rw [if_neg h0] at e
  obtain ⟨w, e1, e2⟩ := denL_at D e
  have hlt := (List.getElem?_eq_some_iff.mp e).1
  exact wpAny_getItem_list L (by exact ob5 h0) (by omega) e1 (nn Z y w lc hp _ (sub_refl Z) e2 R (Same.refl ..) h)
theorem OpSub.tup {value slice : PySem.Expr} {y : V} {l : List V} {i : Int} (hz : l.length < 9223372036854775808) (e : at? l i = some y) (h : k y lc hp) : OpSub C value slice (.tup l) (.int i) k x lc hp := by
 intro Z s Q E us ok R d nn yy
 obtain ⟨u, _, rfl, du, ⟨t, rfl⟩⟩ := den2 d
 obtain ⟨m, mu, fo, X, lo⟩ := id R
 obtain ⟨a, items, rfl, L, D⟩ := tup_at X du
 obtain ⟨ops, hs⟩ := subOk slice (.ref a) (.int i t)
 have sz := denL_size D
 unfold at? at e
 refine tail_any L.typeIs slot_tuple_getitem.lookup ?_ hs
 by_cases h0 : i < 0
 ·rw [if_pos h0] at e
  by_cases h1 : -(l.length : Int) ≤ i
  ·rw [if_pos h1] at e
   obtain ⟨w, e1, e2⟩ := denL_at D e
   exact getItem_tuple L (by omega) (by omega) (PySem.seqIndex_neg h0 (by exact ow3 sz h1)) (by rw [sz]; exact e1) (nn Z y w lc hp _ (sub_refl Z) e2 R (Same.refl ..) h)
  ·rw [if_neg h1] at e; cases e
 ·rw [if_neg h0] at e
  obtain ⟨w, e1, e2⟩ := denL_at D e
  have hlt := (List.getElem?_eq_some_iff.mp e).1
  exact getItem_tuple L (by omega) (by omega) (seqIndex_of (by exact ob5 h0) (by exact ox8 sz hlt)) e1 (nn Z y w lc hp _ (sub_refl Z) e2 R (Same.refl ..) h)
theorem OpSub.str {value slice : PySem.Expr} {l : List Nat} {i : Int} {c : Nat} (hz : l.length < 9223372036854775808) (h0 : 0 ≤ i) (e : l[i.toNat]? = some c) (h : k (.str [c]) lc hp) : OpSub C value slice (.str l) (.int i) k x lc hp := by
 intro Z s Q E us ok R d nn yy
 obtain ⟨_, _, rfl, ⟨t', rfl⟩, ⟨t, rfl⟩⟩ := den2 d
 obtain ⟨ops, hs⟩ := subOk slice (.str ⟨l.toArray⟩ t') (.int i t)
 have hlt := (List.getElem?_eq_some_iff.mp e).1
 have hc : (seqIndex? i (⟨l.toArray⟩ : Str).length).bind ((⟨l.toArray⟩ : Str).cps[·]?) = some c := by
  rw [seqIndex_of h0 (by simp only [Str.length, List.size_toArray]; exact oj9 hlt)]
  simpa using e
 refine tail_any (typeIs_str _ _ _) F.slot_str_getitem.lookup (P.getItem_str (by simp; exact os10 h0 hlt hz) hc ?_) hs
 exact nn Z (.str [c]) _ lc hp _ (sub_refl Z) ⟨_, rfl⟩ R (Same.mk' ..) h
theorem OpCall.lenL {v : V} {l : List V} (il : IsLst hp v l) (hz : l.length < 9223372036854775808) (h : k (.int l.length) lc hp) : OpCall C (.raw (.builtin "len")) [v] k x lc hp := by
 intro Z s Q E us ok R d nn y
 obtain ⟨_, u, rfl, rfl, du⟩ := den2 d
 obtain ⟨m, mu, fo, X, lo⟩ := id R
 obtain ⟨a, items, rfl, L, D⟩ := lst_at X il du
 have sz := denL_size D
 exact len_list L (by omega) (nn Z (.int l.length) _ lc hp _ (sub_refl Z) ⟨s.toks + 1, by rw [sz]⟩ R (Same.mk' ..) h)
theorem OpCall.lenT {l : List V} (hz : l.length < 9223372036854775808) (h : k (.int l.length) lc hp) : OpCall C (.raw (.builtin "len")) [.tup l] k x lc hp := by
 intro Z s Q E us ok R d nn y
 obtain ⟨_, u, rfl, rfl, du⟩ := den2 d
 obtain ⟨m, mu, fo, X, lo⟩ := id R
 obtain ⟨a, items, rfl, L, D⟩ := tup_at X du
 have sz := denL_size D
 exact len_tuple L (by omega) (nn Z (.int l.length) _ lc hp _ (sub_refl Z) ⟨s.toks + 1, by rw [sz]⟩ R (Same.mk' ..) h)
theorem empty_of {items : Array Value} {l : List V} (e : items.size = l.length) : (!items.isEmpty) = !l.isEmpty := by
 cases l <;> simp [Array.isEmpty, e]
theorem OpTruth.lst {v : V} {l : List V} {kb : Bool → Loc → HP → Prop} (il : IsLst hp v l) (hz : l.length < 9223372036854775808) (h : kb (!l.isEmpty) lc hp) : OpTruth C v kb x lc hp := by
 intro Z s Q E us ok R d nn y
 obtain ⟨u, rfl, du⟩ := den1 d
 obtain ⟨m, mu, fo, X, lo⟩ := id R
 obtain ⟨a, items, rfl, L, D⟩ := lst_at X il du
 have sz := denL_size D
 exact wpAny_truthy_list L (by omega) (nn Z (!l.isEmpty) _ lc hp _ (sub_refl Z) (empty_of sz) R (Same.mk' ..) h)
theorem OpTruth.tup {l : List V} {kb : Bool → Loc → HP → Prop} (hz : l.length < 9223372036854775808) (h : kb (!l.isEmpty) lc hp) : OpTruth C (.tup l) kb x lc hp := by
 intro Z s Q E us ok R d nn y
 obtain ⟨u, rfl, du⟩ := den1 d
 obtain ⟨m, mu, fo, X, lo⟩ := id R
 obtain ⟨a, items, rfl, L, D⟩ := tup_at X du
 have sz := denL_size D
 exact truthy_tuple L (by omega) (nn Z (!l.isEmpty) _ lc hp _ (sub_refl Z) (empty_of sz) R (Same.mk' ..) h)
theorem denL_push {W : Wd} {Z : Led} {l : List V} {items : Array Value} {y : V} {u : Value} (D : denL W Z l items.toList) (d : den W Z y u) : denL W Z (l ++ [y]) (items.push u).toList := by
 rw [Array.toList_push]
 exact denL_append D ⟨u, [], rfl, d, rfl⟩
theorem OpMeth.append {a : Addr} {l : List V} {k : V × List V → Loc → HP → Prop} (e : hp a = some (.list l)) (h : k (.raw (.builtin "list.append"), [.ref a]) lc hp) : OpMeth C (.ref a) "append" k x lc hp := by
 intro pl Z s Q E us ok R d nn y
 obtain ⟨u, rfl, du⟩ := den1 d
 obtain rfl : u = .ref a := du
 obtain ⟨m, mu, fo, X, lo⟩ := id R
 obtain ⟨key, ob, m1, rfl, vs, n, rfl, D⟩ := X.hp a _ e
 have g := (X.N (key, listOf vs n) (List.mem_append_right _ (List.mem_append_left _ (List.mem_map_of_mem m1)))).1
 exact getMethod_list_append g rfl rfl (nn Z (.raw (.builtin "list.append"), [.ref key]) _ lc hp _ (sub_refl Z) ⟨rfl, _, [], rfl, rfl, rfl⟩ R (Same.refl ..) h)
theorem OpCall.append {a : Addr} {l : List V} {y : V} (e : hp a = some (.list l)) (hz : l.length ≤ 1048576) (h : k .none lc (hp.set a (.list (l ++ [y])))) : OpCall C (.raw (.builtin "list.append")) [.ref a, y] k x lc hp := by
 intro Z s Q E us ok R d nn yy
 simp only [denL] at d
 obtain ⟨_, _, rfl, rfl, _, _, rfl, rfl, w, _, rfl, dw, rfl⟩ := d
 obtain ⟨m, mu, fo, X, lo⟩ := R
 obtain ⟨key, ob, m1, rfl, vs, n, rfl, D⟩ := X.hp a _ e
 have g := (X.N (key, listOf vs n) (List.mem_append_right _ (List.mem_append_left _ (List.mem_map_of_mem m1)))).1
 have sz := denL_size D
 refine wpAny_list_append_plain ⟨n, g⟩ (fun h' hl hs => ?_) (by rw [sz]; exact Nat.le_trans hz (by decide))
 obtain ⟨n', g'⟩ := hl
 obtain ⟨mu', X'⟩ := X.turn (o' := .list (l ++ [y])) m1 hs g' ⟨rfl, _, _, rfl, denL_push D dw⟩
 exact nn Z .none _ lc _ _ (sub_refl Z) rfl ⟨m, mu', fo, X', lo⟩ (Same.mk' ..) h
noncomputable def idx (n : Nat) (i : Int) : Nat := if i < 0 then (i + n).toNat else i.toNat
theorem set_list {Z : Led} {s : Shared} {Q : Unit → Shared → Prop} {m : Str → Option Value} {mu : Mut} {fo : Led} {lo : LocOk C.W Z lc m} {a : Addr} {l : List V} {y : V} {w : Value} {j : Nat} {vs : Array Value} {n : Nat}
  (nn : NK C (fun _ (_ _ : Unit) => True) (fun _ lc' hp' => lc' = lc ∧ hp' = hp.set a (.list (l.set j y))) Z s Q) (X : RelX C Z hp s.heap m mu fo) (m1 : (a, a, listOf vs n) ∈ mu) (D : denL C.W Z l vs.toList) (dw : den C.W Z y w) :
  Q () { s with heap := s.heap.update a (Obj.mapSeq (·.setIfInBounds j w)) } := by
 have g := (X.N (a, listOf vs n) (List.mem_append_right _ (List.mem_append_left _ (List.mem_map_of_mem m1)))).1
 have g' := Heap.get?_update_self (Obj.mapSeq (·.setIfInBounds j w)) g rfl
 have D' : denL C.W Z (l.set j y) (vs.setIfInBounds j w).toList := by
  rw [denL_iff] at D ⊢
  refine ⟨by simpa using D.1, fun i z v e1 e2 => ?_⟩
  rw [Array.toList_setIfInBounds] at e2
  rw [List.getElem?_set] at e1 e2
  by_cases q : j = i
  ·rw [if_pos q] at e1 e2
   split at e1
   ·split at e2
    ·cases e1; cases e2; exact dw
    ·cases e2
   ·cases e1
  ·rw [if_neg q] at e1 e2
   exact D.2 i z v e1 e2
 obtain ⟨mu', X'⟩ := X.turn (o' := .list (l.set j y)) m1 (Heap.SameBut.update ..) g' ⟨rfl, _, _, rfl, D'⟩
 exact nn Z () () lc _ _ (sub_refl Z) trivial ⟨m, mu', fo, X', lo⟩ (Same.mk' ..) ⟨rfl, rfl⟩
theorem OpSetItem.lst {a : Addr} {l : List V} {i : Int} {y : V} {k : Unit → Loc → HP → Prop} (e : hp a = some (.list l)) (h0 : -(l.length : Int) ≤ i) (hi : i < l.length) (hz : l.length ≤ 1048576) (h : k () lc (hp.set a (.list (l.set (idx l.length i) y)))) : OpSetItem C (.ref a) (.int i) y k x lc hp := by
 intro Z s Q E us ok R d nn yy
 simp only [denL] at d
 obtain ⟨_, _, rfl, rfl, _, _, rfl, ⟨t, rfl⟩, w, _, rfl, dw, rfl⟩ := d
 obtain ⟨m, mu, fo, X, lo⟩ := R
 obtain ⟨key, ob, m1, rfl, vs, n, rfl, D⟩ := X.hp a _ e
 have g := (X.N (key, listOf vs n) (List.mem_append_right _ (List.mem_append_left _ (List.mem_map_of_mem m1)))).1
 have sz := denL_size D
 have fin := set_list (lo := lo) (j := idx l.length i) (y := y) (w := w) (fun Z' b c lc' hp' s' z r R' y' kk => nn Z' b c lc' hp' s' z r R' y' (by rw [kk.1, kk.2]; exact h)) X m1 D dw
 unfold idx at fin
 by_cases q : i < 0
 ·rw [if_pos q] at fin
  exact ki_setBack g q (by exact ow3 sz h0) (by omega) (by rw [sz]; exact fin)
 ·rw [if_neg q] at fin
  exact ki_setAt g (by exact ob5 q) (by omega) (by exact ok13 sz hi) fin
theorem OpMeth.join {b : List Nat} {k : V × List V → Loc → HP → Prop} (h : k (.raw (.builtin "str.join"), [.str b]) lc hp) : OpMeth C (.str b) "join" k x lc hp := by
 intro pl Z s Q E us ok R d nn y
 obtain ⟨u, rfl, ⟨t, rfl⟩⟩ := den1 d
 exact PySem.GM.join (nn Z (.raw (.builtin "str.join"), [.str b]) _ lc hp _ (sub_refl Z) ⟨rfl, _, [], rfl, ⟨t, rfl⟩, rfl⟩ R (Same.refl ..) h)
theorem strsAre_of {W : Wd} {Z : Led} : ∀ {ts : List (List Nat)} {vs : List Value}, denL W Z (ts.map .str) vs → StrsAre vs (ts.map fun t => ⟨t.toArray⟩)
 | [], _, d => by simp only [List.map_nil, denL] at d; subst d; exact .nil
 | t :: r, _, d => by
  simp only [List.map_cons, denL] at d
  obtain ⟨v, vs', rfl, ⟨tk, rfl⟩, D⟩ := d
  exact .cons _ _ (strsAre_of D)
theorem glued_nil (ts : List (List Nat)) : Txt.join Str.empty (ts.map fun t => ⟨t.toArray⟩) = ⟨ts.flatten.toArray⟩ := by
 have key : ∀ (ts : List (List Nat)) (acc : List Nat), (ts.map fun t => (⟨t.toArray⟩ : Str)).foldl (fun acc p => acc ++ Str.empty.cps ++ p.cps) acc.toArray = (acc ++ ts.flatten).toArray := by
  intro ts
  induction ts with
  | nil => intro acc; simp
  | cons t r ih =>
   intro acc
   have := ih (acc ++ t)
   simp only [List.map_cons, List.foldl_cons, List.flatten_cons]
   rw [← List.append_assoc, ← this]
   congr 1
   simp [Str.empty]
 unfold Txt.join Builtin.Str.glued
 cases ts with
 | nil => rfl
 | cons t r =>
  have := key r t
  simp only [List.map_cons]
  simpa using this
theorem OpCall.join {v : V} {ts : List (List Nat)} (il : IsLst hp v (ts.map .str)) (hz : (ts.map (·.length)).sum + ts.length ≤ 1048576) (h : k (.str ts.flatten) lc hp) : OpCall C (.raw (.builtin "str.join")) [.str [], v] k x lc hp := by
 intro Z s Q E us ok R d nn y
 simp only [denL] at d
 obtain ⟨_, _, rfl, rfl, _, _, rfl, ⟨t, rfl⟩, u, _, rfl, du, rfl⟩ := d
 obtain ⟨m, mu, fo, X, lo⟩ := id R
 obtain ⟨a, items, rfl, L, D⟩ := lst_at X il du
 refine join_listW L (strsAre_of D) (by decide) ?_ (fun t' kk => nn Z (.str ts.flatten) _ lc hp _ (sub_refl Z) ⟨t', ?_⟩ R (Same.mk' ..) h)
 ·simpa [List.map_map, Function.comp_def, Str.length] using hz
 ·rw [← glued_nil]; rfl
theorem OpMeth.upper {b : List Nat} {k : V × List V → Loc → HP → Prop} (h : k (.raw (.builtin "str.upper"), [.str b]) lc hp) : OpMeth C (.str b) "upper" k x lc hp := by
 intro pl Z s Q E us ok R d nn y
 obtain ⟨u, rfl, ⟨t, rfl⟩⟩ := den1 d
 exact PySem.GM.upper (nn Z (.raw (.builtin "str.upper"), [.str b]) _ lc hp _ (sub_refl Z) ⟨rfl, _, [], rfl, ⟨t, rfl⟩, rfl⟩ R (Same.refl ..) h)
theorem OpCall.upper {b c : List Nat} (hz : b.length ≤ 1048576) (e : (Txt.upper ⟨b.toArray⟩).cps.toList = c) (h : k (.str c) lc hp) : OpCall C (.raw (.builtin "str.upper")) [.str b] k x lc hp := by
 intro Z s Q E us ok R d nn y
 simp only [denL] at d
 obtain ⟨_, _, rfl, rfl, _, _, rfl, ⟨t, rfl⟩, rfl⟩ := d
 subst e
 exact SCL.upper (by simp only [Str.length, List.size_toArray]; exact ov13 hz) fun _ => nn Z (.str _) _ lc hp _ (sub_refl Z) ⟨s.toks, by simp⟩ R (Same.mk' ..) h
theorem OpCmp.inS {c : Nat} {l : List Nat} (h : k (.bool (decide (c ∈ l))) lc hp) : OpCmp C .In (.str [c]) (.str l) k x lc hp := by
 intro Z s Q E us ok R d nn y
 obtain ⟨_, _, rfl, ⟨t, rfl⟩, ⟨t', rfl⟩⟩ := den2 d
 refine PyProof.Rows.in_str (nn Z (.bool (decide (c ∈ l))) _ lc hp _ (sub_refl Z) ?_ R (Same.refl ..) h)
 show Value.bool _ = _
 rw [StrLaws.found_one]
theorem OpCmp.notInS {c : Nat} {l : List Nat} (h : k (.bool (!decide (c ∈ l))) lc hp) : OpCmp C .NotIn (.str [c]) (.str l) k x lc hp := by
 intro Z s Q E us ok R d nn y
 obtain ⟨_, _, rfl, ⟨t, rfl⟩, ⟨t', rfl⟩⟩ := den2 d
 refine PyProof.Rows.notIn_str (nn Z (.bool (!decide (c ∈ l))) _ lc hp _ (sub_refl Z) ?_ R (Same.refl ..) h)
 show Value.bool _ = _
 rw [StrLaws.found_one]
end
end Mine
end
section
open PySem PySem.W PyProof.Rows PySem.Calls
namespace Mine
noncomputable def notVal (o : Obj) : Prop := o.cls ≠ .type "tuple" ∧ o.cls ≠ .type "list" ∧ o.cls ≠ .type "dict" ∧ o.cls ≠ .type "range" ∧ ∀ c, o.cls ≠ .ref c
noncomputable def Led.drop (Z : Led) (a : Addr) : Led := Z.filter fun p => decide (p.1 ≠ a)
theorem mem_drop {Z : Led} {a : Addr} {p : Addr × Obj} : p ∈ Led.drop Z a ↔ p ∈ Z ∧ p.1 ≠ a := by simp [Led.drop]
theorem Has.drop {W : Wd} {Z : Led} {it a : Addr} {o : Obj} (hn : ∀ o, (it, o) ∈ Z → notVal o) (ho : ¬ notVal o) (H : Has W Z a o) : Has W (Led.drop Z it) a o := by
 rcases H with H | H
 ·exact .inl H
 ·refine .inr (mem_drop.mpr ⟨H, fun e => ?_⟩)
  subst e
  exact ho (hn o H)
mutual
theorem den.drop {W : Wd} {Z : Led} {it : Addr} (hn : ∀ o, (it, o) ∈ Z → notVal o) : ∀ (x : V) {v : Value}, den W Z x v → den W (Led.drop Z it) x v
 | .none, _, h => h
 | .bool _, _, h => h
 | .int _, _, h => h
 | .str _, _, h => h
 | .tup l, _, h => by
  simp only [den] at h ⊢
  obtain ⟨a, o, vs, n, e, H, c, d, D⟩ := h
  exact ⟨a, o, vs, n, e, H.drop hn (fun q => q.1 c), c, d, denL.drop hn l D⟩
 | .lst l, _, h => by
  simp only [den] at h ⊢
  obtain ⟨a, o, vs, n, e, H, c, d, D⟩ := h
  exact ⟨a, o, vs, n, e, H.drop hn (fun q => q.2.1 c), c, d, denL.drop hn l D⟩
 | .dict ks xs, _, h => by
  simp only [den] at h ⊢
  obtain ⟨a, es, n, e, y, H, D⟩ := h
  exact ⟨a, es, n, e, y, H.drop hn (fun q => q.2.2.1 rfl), denD.drop hn ks xs D⟩
 | .inst C ns xs, _, h => by
  simp only [den] at h ⊢
  obtain ⟨a, dx, es, n, e, H, H2, D⟩ := h
  exact ⟨a, dx, es, n, e, H.drop hn (fun q => q.2.2.2.2 C rfl), H2.drop hn (fun q => q.2.2.1 rfl), denF.drop hn ns xs D⟩
 | .ref _, _, h => h
 | .raw _, _, h => h
 | .rng a b, _, h => by
  simp only [den] at h ⊢
  obtain ⟨r, t, u, z, e, H⟩ := h
  exact ⟨r, t, u, z, e, H.drop hn (fun q => q.2.2.2.1 rfl)⟩
theorem denL.drop {W : Wd} {Z : Led} {it : Addr} (hn : ∀ o, (it, o) ∈ Z → notVal o) : ∀ (l : List V) {vs : List Value}, denL W Z l vs → denL W (Led.drop Z it) l vs
 | [], _, h => h
 | x :: r, _, h => by
  simp only [denL] at h ⊢
  obtain ⟨v, vs', e, d, D⟩ := h
  exact ⟨v, vs', e, den.drop hn x d, denL.drop hn r D⟩
theorem denF.drop {W : Wd} {Z : Led} {it : Addr} (hn : ∀ o, (it, o) ∈ Z → notVal o) : ∀ (ns : List Str) (xs : List V) {es : List DictEntry}, denF W Z ns xs es → denF W (Led.drop Z it) ns xs es
 | _, [], _, h => h
 | ns, x :: r, _, h => by
  simp only [denF] at h ⊢
  obtain ⟨n, ns', hh, t, v, es', e1, e2, d, D⟩ := h
  exact ⟨n, ns', hh, t, v, es', e1, e2, den.drop hn x d, denF.drop hn ns' r D⟩
theorem denD.drop {W : Wd} {Z : Led} {it : Addr} (hn : ∀ o, (it, o) ∈ Z → notVal o) : ∀ (ks : List (List Nat)) (xs : List V) {es : List DictEntry}, denD W Z ks xs es → denD W (Led.drop Z it) ks xs es
 | _, [], _, h => h
 | ks, x :: r, _, h => by
  simp only [denD] at h ⊢
  obtain ⟨k, ks', t, v, es', e1, e2, d, D⟩ := h
  exact ⟨k, ks', t, v, es', e1, e2, den.drop hn x d, denD.drop hn ks' r D⟩
end
theorem cellOk.drop {W : Wd} {Z : Led} {it : Addr} (hn : ∀ o, (it, o) ∈ Z → notVal o) {a key : Addr} {ob : Obj} : ∀ {o : O}, cellOk W Z a key ob o → cellOk W (Led.drop Z it) a key ob o
 | .list l, ⟨e, vs, n, e2, D⟩ => ⟨e, vs, n, e2, D.drop hn⟩
 | .inst C ns xs, ⟨es, n, e, m, D⟩ => ⟨es, n, e, mem_drop.mpr ⟨m, fun q => (hn (instObj C key) (by have q' : a = it := q; rw [← q']; exact m)).2.2.2.2 C rfl⟩, D.drop hn⟩
 | .dict ks xs, ⟨e, y, es, n, e2, D⟩ => ⟨e, y, es, n, e2, D.drop hn⟩
 | .cell none, ⟨e, v, e2, D⟩ => ⟨e, v, e2, D⟩
 | .cell (some x), ⟨e, v, e2, u, e3, D⟩ => ⟨e, v, e2, u, e3, D.drop hn⟩
 | .exc od, h => h
 | .adict ns xs, ⟨e, es, n, e2, D⟩ => ⟨e, es, n, e2, D.drop hn⟩
section
variable {C : Fm} {x : HP → Prop} {lc : Loc} {hp : HP} {k : Fl → Loc → HP → Prop}
structure ItP (C : Fm) (Z1 : Led) (l : List V) (it : Addr) (P : Nat → Obj → Prop) : Prop where
 nv : ∀ i o, P i o → notVal o
 next : ∀ i y Z (s : Shared) (Q : Option Value → Shared → Prop) E o, Z1 ⊆ Z → (∀ a o, Has C.W Z1 a o → s.heap.get? a = some o) → s.heap.get? it = some o → P i o → l[i]? = some y →
  (∀ h' t' u o', den C.W Z1 y u → h'.get? it = some o' → P (i + 1) o' → Heap.SameBut it s.heap h' → Q (some u) { s with heap := h', toks := t' }) → wpAny (model pw C.W.w) C.A (pyNext (.ref it)) Q E s
 stop : ∀ i (s : Shared) (Q : Option Value → Shared → Prop) E o, (∀ a o, Has C.W Z1 a o → s.heap.get? a = some o) → s.heap.get? it = some o → P i o → l[i]? = none →
  (∀ h', Heap.ExtBut it s.heap h' → Q none { s with heap := h' }) → wpAny (model pw C.W.w) C.A (pyNext (.ref it)) Q E s
 self : ∀ i (s : Shared) (Q : Value → Shared → Prop) E o, s.heap.get? it = some o → P i o → Q (.ref it) s → wpAny (model pw C.W.w) C.A (pyIter (.ref it)) Q E s
 go : ∀ i (s : Shared) (Q : Unit → Shared → Prop) E o target v, s.heap.get? it = some o → P i o → Q () s → wpAny (model pw C.W.w) C.A (letOwnedTupleGo target (.ref it) v) Q E s
noncomputable def IterV (C : Fm) (v : V) (l : List V) : Prop := v = .lst l ∨ v = .tup l ∨ ∃ a b, v = .rng a b ∧ l = (List.range (b - a).toNat).map (fun i => V.int (a + (i : Nat))) ∧ Builtin.Range.small a b 1 = true
theorem RelX.itTurn {Z : Led} {h h' : Heap} {m : Str → Option Value} {mu : Mut} {fo : Led} {it : Addr} {o o' : Obj} (X : RelX C ((it, o) :: Z) hp h m mu fo) (hn : ∀ p ∈ Z, p.1 ≠ it) (hv : notVal o) (hs : Heap.SameBut it h h') (ho : h'.get? it = some o') :
  RelX C ((it, o') :: Z) hp h' m mu fo := by
 have n0 := X.N (it, o) (.head _)
 have notIt : ∀ p ∈ mu.map (·.2) ++ fo, p.1 ≠ it := fun p hp e => X.dj (it, o) (.head _) (by show it ∈ _; rw [← e]; exact List.mem_map_of_mem hp)
 have hd : ∀ ob, (it, ob) ∈ (it, o) :: Z → notVal ob := fun ob hm => by
  rcases List.mem_cons.mp hm with q | q
  ·cases q; exact hv
  ·exact absurd rfl (hn _ q)
 have hsub : Led.drop ((it, o) :: Z) it ⊆ (it, o') :: Z := fun p hp => by
  obtain ⟨h1, h2⟩ := mem_drop.mp hp
  rcases List.mem_cons.mp h1 with q | q
  ·subst q; exact absurd rfl h2
  ·exact .tail _ q
 refine ⟨⟨X.F.ns.sameBut hs (Ne.symm n0.2.1), fun b ob q => (hs.2 b fun z => by rw [z, n0.2.2] at q; cases q).trans (X.F.keep b ob q), X.F.above⟩, fun p hp => ?_, X.nd, fun p hp => ?_, X.pr, fun a ob e => ?_⟩
 ·rcases List.mem_append.mp hp with hp | hp
  ·rcases List.mem_cons.mp hp with rfl | hp
   ·exact ⟨ho, n0.2⟩
   ·have n := X.N p (List.mem_append_left _ (.tail _ hp))
    exact ⟨(hs.2 _ (hn p hp)).trans n.1, n.2⟩
  ·have n := X.N p (List.mem_append_right _ hp)
   exact ⟨(hs.2 _ (notIt p hp)).trans n.1, n.2⟩
 ·rcases List.mem_cons.mp hp with rfl | hp
  ·exact X.dj (it, o) (.head _)
  ·exact X.dj p (.tail _ hp)
 ·obtain ⟨key, ob', m1, c⟩ := X.hp a ob e
  exact ⟨key, ob', m1, (c.drop hd).mono hsub⟩
theorem RelX.itStop {Z : Led} {h h' : Heap} {m : Str → Option Value} {mu : Mut} {fo : Led} {it : Addr} {o : Obj} (X : RelX C ((it, o) :: Z) hp h m mu fo) (hn : ∀ p ∈ Z, p.1 ≠ it) (hv : notVal o) (hs : Heap.ExtBut it h h') :
  RelX C Z hp h' m mu fo := by
 have n0 := X.N (it, o) (.head _)
 have notIt : ∀ p ∈ mu.map (·.2) ++ fo, p.1 ≠ it := fun p hp e => X.dj (it, o) (.head _) (by show it ∈ _; rw [← e]; exact List.mem_map_of_mem hp)
 have hd : ∀ ob, (it, ob) ∈ (it, o) :: Z → notVal ob := fun ob hm => by
  rcases List.mem_cons.mp hm with q | q
  ·cases q; exact hv
  ·exact absurd rfl (hn _ q)
 have hsub : Led.drop ((it, o) :: Z) it ⊆ Z := fun p hp => by
  obtain ⟨h1, h2⟩ := mem_drop.mp hp
  rcases List.mem_cons.mp h1 with q | q
  ·subst q; exact absurd rfl h2
  ·exact q
 obtain ⟨oL, eL, nL⟩ := ns_iff.mp X.F.ns
 refine ⟨⟨ns_iff.mpr ⟨oL, hs _ _ (Ne.symm n0.2.1) eL, nL⟩, fun b ob q => hs b ob (fun z => by rw [z, n0.2.2] at q; cases q) (X.F.keep b ob q), X.F.above⟩, fun p hp => ?_, X.nd, fun p hp => X.dj p (.tail _ hp), X.pr, fun a ob e => ?_⟩
 ·rcases List.mem_append.mp hp with hp | hp
  ·have n := X.N p (List.mem_append_left _ (.tail _ hp))
   exact ⟨hs _ _ (hn p hp) n.1, n.2⟩
  ·have n := X.N p (List.mem_append_right _ hp)
   exact ⟨hs _ _ (notIt p hp) n.1, n.2⟩
 ·obtain ⟨key, ob', m1, c⟩ := X.hp a ob e
  exact ⟨key, ob', m1, (c.drop hd).mono hsub⟩
theorem LocOk.drop {W : Wd} {Z : Led} {it : Addr} {lc : Loc} {m : Str → Option Value} (hn : ∀ o, (it, o) ∈ Z → notVal o) (l : LocOk W Z lc m) : LocOk W (Led.drop Z it) lc m := fun y v e => let ⟨u, h1, h2⟩ := l y v e; ⟨u, h1, h2.drop hn⟩
theorem RelX.congrZ {Z Z' : Led} {h : Heap} {m : Str → Option Value} {mu : Mut} {fo : Led} (X : RelX C Z hp h m mu fo) (h1 : Z ⊆ Z') (h2 : Z' ⊆ Z) : RelX C Z' hp h m mu fo :=
 ⟨X.F, fun p hp => X.N p ((List.mem_append.mp hp).elim (fun q => List.mem_append_left _ (h2 q)) fun q => List.mem_append_right _ q), X.nd, fun p hp => X.dj p (h2 hp), X.pr, fun a o e => let ⟨key, ob, m1, c⟩ := X.hp a o e; ⟨key, ob, m1, c.mono h1⟩⟩
theorem RelX.congrH {Z : Led} {h h' : Heap} {m : Str → Option Value} {mu : Mut} {fo : Led} (X : RelX C Z hp h m mu fo) (e : ∀ b, h'.get? b = h.get? b) : RelX C Z hp h' m mu fo := by
 obtain ⟨oL, eL, nL⟩ := ns_iff.mp X.F.ns
 exact ⟨⟨ns_iff.mpr ⟨oL, (e _).trans eL, nL⟩, fun b o q => (e b).trans (X.F.keep b o q), X.F.above⟩, fun p hp => ⟨(e _).trans (X.N p hp).1, (X.N p hp).2⟩, X.nd, X.dj, X.pr, X.hp⟩
theorem back_exc {Z : Led} {s s0 : Shared} {E : Value → Shared → Prop} (ok : FmOk C) (ht : C.top = true) {e : Addr} (x0 : Exc C Z hp e s.heap) (y : XK C x Z s0 E) (sm : Same s0 s) (hx : x hp) :
  notedBy (model pw C.W.w) C.A C.env (fun e s' => cameBackBy (model pw C.W.w) C.A C.env E e s') (.ref e) s := by
 obtain ⟨outer, hfe⟩ := ok.htop ht
 have hcur := ok.hcur ht
 unfold notedBy
 refine note_exc ok hfe hcur hcur x0 hcur rfl fun m h' ea => ?_
 unfold cameBackBy
 have ea' := ea
 obtain ⟨mu, fo, X, oe, vs, a0, T, oT, ts, h1, h2, h3, h4, h5, h6, t1, t2, t3, t4, t5, t6, t7⟩ := ea
 refine wpAny_bind (wpAny_field h1 h3 t1 ?_)
 rw [if_neg (by simp)]
 unfold setFlight
 refine wpAny_bind (wpAny_field h1 h3 t1 ?_)
 rw [if_pos (by simp)]
 rw [hcur]
 have hsz : 3 < ts.size := (Array.getElem?_eq_some_iff.mp t7).1
 refine wpAny_setField t5 t6 hsz ?_
 have same : Obj.mapFields (·.setIfInBounds 3 (rawInt C.L)) oT = oT := by
  obtain ⟨c, d, dt, sl⟩ := oT
  simp only at t6
  subst t6
  have : ts.setIfInBounds 3 (rawInt C.L) = ts := by
   apply Array.ext_getElem?
   intro i
   rw [Array.getElem?_setIfInBounds]
   split
   ·rename_i q; subst q; exact t7.symm
   ·rfl
  simp only [Obj.mapFields]
  rw [this]
 have hget : ∀ b, (h'.update T (Obj.mapFields (·.setIfInBounds 3 (rawInt C.L)))).get? b = h'.get? b := fun b => by
  by_cases q : b = T
  ·subst q
   have g := Heap.get?_update_self (Obj.mapFields (·.setIfInBounds 3 (rawInt C.L))) t5 (by rw [same]; exact (Heap.get?_some_iff.mp t5).2)
   rw [g, same, t5]
  ·exact Heap.get?_update_other _ _ (Ne.symm q)
 refine y Z e hp _ (sub_refl Z) ?_ (sm.trans ((Same.mk' s h' s.toks).trans (Same.mk' _ _ s.toks))) hx
 exact ⟨m, mu, fo, X.congrH hget, oe, vs, a0, (hget e).trans h1, h2, h3, h4, h5, h6, .inr ⟨T, oT, ts, rawInt C.L, t1, t2, t3, t4, (hget T).trans t5, t6, t7, .inr ⟨C.L, hcur, rfl⟩⟩⟩
theorem go_noop {s : Shared} {it : Addr} {o : Obj} {n : String} {vs : Array Value} {Q : Unit → Shared → Prop} {E : Value → Shared → Prop} {A : Around} {M : Model} (target : PySem.Expr) (v : Value) (hn : ["enumerate", "zip", "dict_itemiterator", "dict_reverseitemiterator", "odict_iterator", "itertools.zip_longest", "itertools.pairwise"].contains n = false)
  (ho : s.heap.get? it = some o) (hc : o.cls = .type n) (hd : o.data = .fields vs) (h : Q () s) : wpAny M A (letOwnedTupleGo target (.ref it) v) Q E s := by
 unfold letOwnedTupleGo
 split
 ·cases v with
  | ref a =>
   refine wpAny_bind (wpAny_load ho ?_)
   rw [hc, hd]
   dsimp only
   rw [hn]
   exact wpAny_pure h
  | _ => exact wpAny_pure h
 ·cases v with
  | ref a =>
   refine wpAny_bind (wpAny_load ho ?_)
   rw [hc, hd]
   dsimp only
   rw [hn]
   exact wpAny_pure h
  | _ => exact wpAny_pure h
 ·exact wpAny_pure h
theorem iter_start {Z1 : Led} {s1 : Shared} {v : V} {u : Value} {l : List V} {K' : Value → Shared → Prop} {E : Value → Shared → Prop} (ok : FmOk C) (R1 : Rel C Z1 lc hp s1.heap) (r1 : den C.W Z1 v u) (iv : IterV C v l)
  (main : ∀ (it : Addr) (P : Nat → Obj → Prop) (o : Obj) (s2 : Shared), ItP C Z1 l it P → P 0 o → Rel C ((it, o) :: Z1) lc hp s2.heap → (∀ p ∈ Z1, p.1 ≠ it) → Same s1 s2 → K' (.ref it) s2) :
  wpAny (model pw C.W.w) C.A (pyIter u) K' E s1 := by
 obtain ⟨m, mu, fo, X, lo⟩ := R1
 have fresh : ∀ p ∈ Z1, p.1 ≠ s1.heap.objs.size := fun p hp q => by
  have := Heap.lt_size (X.N p (List.mem_append_left _ hp)).1
  rw [q] at this; exact Nat.lt_irrefl _ this
 have sub1 : ∀ o, Z1 ⊆ (s1.heap.objs.size, o) :: Z1 := fun o _ q => .tail _ q
 have R' : ∀ o : Obj, o.isFreed = false → Rel C ((s1.heap.objs.size, o) :: Z1) lc hp (s1.heap.push o) := fun o hf => ⟨m, mu, fo, X.push o hf, lo.mono (sub1 o)⟩
 rcases iv with rfl | rfl | ⟨a, b, rfl, rfl, hsm⟩
 ·simp only [den] at r1
  obtain ⟨src, os, vs, n, rfl, H, c, dd, D⟩ := r1
  refine wpAny_pyIter_list (items := vs) ⟨os, X.has H, c, n, dd⟩ ?_
  refine main s1.heap.objs.size (fun i o => o.cls = .type "list_iterator" ∧ o.data = .fields #[.ref src, .int i 0]) _ _ ⟨?_, ?_, ?_, ?_, ?_⟩ ⟨rfl, rfl⟩ (R' _ rfl) fresh (Same.mk' s1 _ s1.toks)
  ·rintro i o ⟨hc, _⟩; exact ⟨by rw [hc]; decide, by rw [hc]; decide, by rw [hc]; decide, by rw [hc]; decide, fun c => by rw [hc]; exact fun q => by cases q⟩
  ·intro i yv Z' s' Q' E' o zz hk hit po hx hq
   obtain ⟨w, e1, e2⟩ := denL_at D hx
   exact wpAny_pyNext_list_item ⟨o, hit, po.1, po.2⟩ ⟨os, hk _ _ H, c, n, dd⟩ e1 fun h' hi hs => let ⟨o', g1, g2, g3⟩ := hi; hq h' s'.toks w o' e2 g1 ⟨g2, g3⟩ hs
  ·intro i s' Q' E' o hk hit po hx hq
   have : vs[i]? = none := by
    rw [List.getElem?_eq_none_iff] at hx
    rw [Array.getElem?_eq_none_iff, denL_size D]; exact hx
   exact wpAny_pyNext_list_end ok.hand ⟨o, hit, po.1, po.2⟩ ⟨os, hk _ _ H, c, n, dd⟩ this hq
  ·exact fun i s' Q' E' o hit po hq => wpAny_pyIter_listiter ⟨o, hit, po.1, po.2⟩ hq
  ·intro i s' Q' E' o tg w hit po hq
   exact go_noop tg w (by decide) hit po.1 po.2 hq
 ·simp only [den] at r1
  obtain ⟨src, os, vs, n, rfl, H, c, dd, D⟩ := r1
  refine wpAny_pyIter_tuple (items := vs) ⟨os, X.has H, c, n, dd⟩ ?_
  refine main s1.heap.objs.size (fun i o => o.cls = .type "tuple_iterator" ∧ o.data = .fields #[.ref src, .int i 0]) _ _ ⟨?_, ?_, ?_, ?_, ?_⟩ ⟨rfl, rfl⟩ (R' _ rfl) fresh (Same.mk' s1 _ s1.toks)
  ·rintro i o ⟨hc, _⟩; exact ⟨by rw [hc]; decide, by rw [hc]; decide, by rw [hc]; decide, by rw [hc]; decide, fun c => by rw [hc]; exact fun q => by cases q⟩
  ·intro i yv Z' s' Q' E' o zz hk hit po hx hq
   obtain ⟨w, e1, e2⟩ := denL_at D hx
   exact wpAny_pyNext_tuple_item ⟨o, hit, po.1, po.2⟩ ⟨os, hk _ _ H, c, n, dd⟩ e1 fun h' hi hs => let ⟨o', g1, g2, g3⟩ := hi; hq h' s'.toks w o' e2 g1 ⟨g2, g3⟩ hs
  ·intro i s' Q' E' o hk hit po hx hq
   have : vs[i]? = none := by
    rw [List.getElem?_eq_none_iff] at hx
    rw [Array.getElem?_eq_none_iff, denL_size D]; exact hx
   exact wpAny_pyNext_tuple_end ok.hand ⟨o, hit, po.1, po.2⟩ ⟨os, hk _ _ H, c, n, dd⟩ this hq
  ·exact fun i s' Q' E' o hit po hq => wpAny_pyIter_tupleiter ⟨o, hit, po.1, po.2⟩ hq
  ·intro i s' Q' E' o tg w hit po hq
   exact go_noop tg w (by decide) hit po.1 po.2 hq
 ·simp only [den] at r1
  obtain ⟨r, t, u', z, rfl, H⟩ := r1
  have hsz : Builtin.Range.rangeSize a b 1 = ((b - a).toNat : Nat) := by rw [rangeSize_one]; split <;> omega
  refine wpAny_pyIter_range (a := a) (b := b) (c := 1) (X.has H) hsm ?_
  refine main s1.heap.objs.size (fun i o => o = { cls := .type "range_iterator", data := .fields #[rawInt (a + i), rawInt ((b - a).toNat - i), rawInt 1] }) _ _ ⟨?_, ?_, ?_, ?_, ?_⟩ ?_ (R' _ rfl) fresh (Same.mk' s1 _ s1.toks)
  ·rintro i o rfl; exact ⟨by simp, by simp, by simp, by simp, fun c => fun q => by cases q⟩
  ·intro i yv Z' s' Q' E' o zz hk hit po hx hq
   subst po
   have hlt := (List.getElem?_eq_some_iff.mp hx).1
   simp only [List.length_map, List.length_range] at hlt
   simp [List.getElem?_map, List.getElem?_range hlt] at hx
   subst hx
   refine wpAny_pyNext_range_item hit (by exact od14 hlt) fun h' hi hs => hq h' _ _ _ ⟨_, rfl⟩ hi ?_ hs
   have i1 : a + (i : Int) + 1 = a + ((i + 1 : Nat) : Int) := by exact om11
   have i2 : ((b - a).toNat : Int) - (i : Int) - 1 = ((b - a).toNat : Int) - ((i + 1 : Nat) : Int) := by exact ou13
   rw [i1, i2]
  ·intro i s' Q' E' o hk hit po hx hq
   subst po
   rw [List.getElem?_eq_none_iff] at hx
   simp only [List.length_map, List.length_range] at hx
   exact wpAny_pyNext_range_end ok.hand hit (by exact oh14 hx) hq
  ·intro i s' Q' E' o hit po hq
   subst po
   exact wpAny_pyIter_rangeiter hit hq
  ·intro i s' Q' E' o tg w hit po hq
   subst po
   exact go_noop tg w (by decide) hit rfl rfl hq
  ·rw [hsz]; simp
theorem SX.for_ {target iter : PySem.Expr} {body : List Stmt} {pos : Pos}
  (h : SE C iter (fun v lc hp => ∃ (l : List V) (I : Nat → Loc → HP → Prop), IterV C v l ∧ I 0 lc hp ∧
   (∀ i y lc hp, l[i]? = some y → I i lc hp → OpAssign C target y (fun _ lc hp => SXs C body (fun fl lc hp => match fl with | .next => I (i + 1) lc hp | .cont => I (i + 1) lc hp | .brk => k .next lc hp | .ret v => k (.ret v) lc hp) x lc hp) x lc hp) ∧
   (∀ lc hp, I l.length lc hp → k .next lc hp)) x lc hp)
  (hs : ∀ v, foldedSetIterable iter C.env v = pure v) (ht : C.top = true) : SX C (.For target iter body [] pos) k x lc hp := by
 intro Z s Q E us ok R d nn y
 refine wpAny_For (h Z s _ _ us ok R d ?_ y) hs
 intro Z1 v u lc1 hp1 s1 z1 r1 R1 e1 h1
 obtain ⟨l, I, iv, h0, turn, done⟩ := h1
 -- the loop, from an iterator's protocol
 have main : ∀ (it : Addr) (P : Nat → Obj → Prop) (o : Obj) (s2 : Shared), ItP C Z1 l it P → P 0 o → Rel C ((it, o) :: Z1) lc1 hp1 s2.heap → (∀ p ∈ Z1, p.1 ≠ it) → Same s1 s2 →
   codeAny (model pw C.W.w) C.A (.forLoop target (.ref it) body [] C.env) (fun r s' => match r with | .ok f => Q f s' | .error e => cameBackBy (model pw C.W.w) C.A C.env E e s') s2 := by
  intro it P o s2 ip p0 R2 n2 e2
  refine codeAny_forLoop_any (fun n s' => ∃ i Zd lc' hp' o', n = l.length - i ∧ i ≤ l.length ∧ Z1 ⊆ Zd ∧ (∀ p ∈ Zd, p.1 ≠ it) ∧ P i o' ∧ Same s1 s' ∧ Rel C ((it, o') :: Zd) lc' hp' s'.heap ∧ I i lc' hp') ?_ (l.length - 0) ⟨0, Z1, lc1, hp1, o, rfl, Nat.zero_le _, sub_refl _, n2, p0, e2, R2, h0⟩
  rintro n s' ⟨i, Zd, lc', hp', o', rfl, hi, zd, nd, pi, sm, R3, hI⟩
  obtain ⟨m, mu, fo, X, lo⟩ := R3
  have hit := (X.N (it, o') (.head _)).1
  have hk : ∀ a o, Has C.W Z1 a o → s'.heap.get? a = some o := fun a o H => X.has (H.mono fun _ q => .tail _ (zd q))
  have hd : ∀ ob, (it, ob) ∈ (it, o') :: Zd → notVal ob := fun ob hm => by
   rcases List.mem_cons.mp hm with q | q
   ·cases q; exact ip.nv i o' pi
   ·exact absurd rfl (nd _ q)
  have hsub : Led.drop ((it, o') :: Zd) it ⊆ Zd := fun p hp => by
   obtain ⟨h1, h2⟩ := mem_drop.mp hp
   rcases List.mem_cons.mp h1 with q | q
   ·subst q; exact absurd rfl h2
   ·exact q
  have lod : LocOk C.W Zd lc' m := (lo.drop hd).mono hsub
  cases hx : l[i]? with
  | none =>
   refine ip.stop i s' _ _ o' hk hit pi hx fun h' he => ?_
   have X' := X.itStop nd (ip.nv i o' pi) he
   have hil : i = l.length := Nat.le_antisymm hi (List.getElem?_eq_none_iff.mp hx)
   subst hil
   exact wpAny_execs_nil (nn Zd .next .next lc' hp' _ (fun _ q => zd (z1 q)) rfl ⟨m, mu, fo, X', lod⟩ (e1.trans (sm.trans (Same.mk' s' h' s'.toks))) (done lc' hp' hI))
  | some yv =>
   refine ip.next i yv Zd s' _ _ o' zd hk hit pi hx fun h' t' w o2 dw ho2 p2 hs2 => ?_
   have X' := X.itTurn nd (ip.nv i o' pi) hs2 ho2
   refine ip.go (i + 1) _ _ _ o2 target w ho2 p2 ?_
   have sub1 : Zd ⊆ (it, o2) :: Zd := fun _ q => .tail _ q
   have sm1 : Same s (⟨h', s'.gens, s'.drawn, t', s'.os⟩ : Shared) := e1.trans (sm.trans (Same.mk' s' h' t'))
   have yy := (y.step (fun _ q => sub1 (zd (z1 q))) sm1 : XK C x ((it, o2) :: Zd) (⟨h', s'.gens, s'.drawn, t', s'.os⟩ : Shared) E)
   have ee : XK C x ((it, o2) :: Zd) (⟨h', s'.gens, s'.drawn, t', s'.os⟩ : Shared) (notedBy (model pw C.W.w) C.A C.env fun e s' => cameBackBy (model pw C.W.w) C.A C.env E e s') := by
    intro Z4 e hp4 s4 z4 ex sm4 xx
    exact back_exc ok ht ex (y.step (fun _ q => z4 (sub1 (zd (z1 q)))) sm1) sm4 xx
   have tt := turn i yv lc' hp' hx hI
   refine tt ((it, o2) :: Zd) _ _ _ [w] ok ⟨m, mu, fo, X', lod.mono sub1⟩ ⟨w, [], rfl, dw.mono (fun _ q => sub1 (zd q)), rfl⟩ ?_ ee
   intro Z5 _ _ lc5 hp5 s5 z5 _ R5 e5 h5
   refine h5 Z5 s5 _ _ [] ok R5 rfl ?_ (ee.step z5 e5)
   intro Z6 fl fv lc6 hp6 s6 z6 r6 R6 e6 h6
   have smAll : Same s1 s6 := (sm.trans (Same.mk' s' h' t')).trans (e5.trans e6)
   have z1all : Z1 ⊆ Z6 := fun _ q => z6 (z5 (sub1 (zd q)))
   have again : I (i + 1) lc6 hp6 → ∃ m, m < l.length - i ∧ ∃ i Zd lc' hp' o', m = l.length - i ∧ i ≤ l.length ∧ Z1 ⊆ Zd ∧ (∀ p ∈ Zd, p.1 ≠ it) ∧ P i o' ∧ Same s1 s6 ∧ Rel C ((it, o') :: Zd) lc' hp' s6.heap ∧ I i lc' hp' := by
    intro hI'
    have hlt := (List.getElem?_eq_some_iff.mp hx).1
    refine ⟨l.length - (i + 1), by exact oa1 hlt, i + 1, Led.drop Z6 it, lc6, hp6, o2, rfl, hlt, fun p hp => mem_drop.mpr ⟨z1all hp, nd p (zd hp)⟩, fun p hp => (mem_drop.mp hp).2, p2, smAll, ?_, hI'⟩
    obtain ⟨m6, mu6, fo6, X6, lo6⟩ := R6
    have inZ : (it, o2) ∈ Z6 := z6 (z5 (.head _))
    have g6 := (X6.N (it, o2) (List.mem_append_left _ inZ)).1
    have a1 : Z6 ⊆ (it, o2) :: Led.drop Z6 it := fun p hp => by
     by_cases q : p.1 = it
     ·have g := (X6.N p (List.mem_append_left _ hp)).1
      rw [q, g6] at g
      cases g
      obtain ⟨pa, pb⟩ := p
      simp only at q
      subst q
      exact .head _
     ·exact .tail _ (mem_drop.mpr ⟨hp, q⟩)
    have a2 : (it, o2) :: Led.drop Z6 it ⊆ Z6 := fun p hp => by
     rcases List.mem_cons.mp hp with rfl | hp
     ·exact inZ
     ·exact (mem_drop.mp hp).1
    exact ⟨m6, mu6, fo6, X6.congrZ a1 a2, lo6.mono a1⟩
   have smS : Same s s6 := e1.trans smAll
   have zz : Z ⊆ Z6 := fun _ q => z1all (z1 q)
   cases fl with
   | next => cases r6; exact again h6
   | cont => cases r6; exact again h6
   | brk => cases r6; exact nn Z6 .next .next lc6 hp6 s6 zz rfl R6 smS h6
   | ret rv => obtain ⟨ru, rfl, dr⟩ := r6; exact nn Z6 (.ret rv) (.ret ru) lc6 hp6 s6 zz ⟨ru, rfl, dr⟩ R6 smS h6
 exact iter_start ok R1 r1 iv fun it P o s2 ip p0 R2 n2 e2 => main it P o s2 ip p0 R2 n2 e2
end
end Mine
end
section
open PySem PySem.W PyProof.Rows PySem.Calls
namespace Mine
section
variable {C : Fm} {x : HP → Prop} {lc : Loc} {hp : HP}
theorem XK.back {Z Z1 : Led} {s s1 : Shared} {E : Value → Shared → Prop} (ok : FmOk C) (ht : C.top = true) (y : XK C x Z s E) (z : Z ⊆ Z1) (sm : Same s s1) :
  XK C x Z1 s1 (notedBy (model pw C.W.w) C.A C.env fun e s' => cameBackBy (model pw C.W.w) C.A C.env E e s') := by
 intro Z4 e hp4 s4 z4 ex sm4 xx
 exact back_exc ok ht ex (y.step (fun _ q => z4 (z q)) sm) sm4 xx
theorem SX.while_ {test : PySem.Expr} {body : List Stmt} {pos : Pos} {k : Fl → Loc → HP → Prop} (ht : C.top = true) (I : Nat → Loc → HP → Prop) (n0 : Nat) (h0 : I n0 lc hp)
  (turn : ∀ n lc hp, I n lc hp → ST C test (eval test C.env) (fun b lc hp => if b = true then SXs C body (fun fl lc hp => match fl with | .next => ∃ m, m < n ∧ I m lc hp | .cont => ∃ m, m < n ∧ I m lc hp | .brk => k .next lc hp | .ret v => k (.ret v) lc hp) x lc hp else k .next lc hp) x lc hp) :
  SX C (.While test body [] pos) k x lc hp := by
 intro Z s Q E us ok R d nn y
 refine wpAny_While (codeAny_whileLoop (fun n s' => ∃ Z' lc' hp', Z ⊆ Z' ∧ Same s s' ∧ Rel C Z' lc' hp' s'.heap ∧ I n lc' hp') ?_ n0 ⟨Z, lc, hp, sub_refl Z, Same.refl s, R, h0⟩)
 rintro n s1 ⟨Z1, lc1, hp1, z1, e1, R1, hI⟩
 refine turn n lc1 hp1 hI Z1 s1 _ _ [] ok R1 rfl ?_ (XK.back ok ht y z1 e1)
 intro Z2 b a lc2 hp2 s2 z2 r2 R2 e2 h2
 subst r2
 cases a with
 | false => exact wpAny_execs_nil (nn Z2 .next .next lc2 hp2 s2 (fun _ q => z2 (z1 q)) rfl R2 (e1.trans e2) h2)
 | true =>
  refine h2 Z2 s2 _ _ [] ok R2 rfl ?_ (XK.back ok ht y (fun _ q => z2 (z1 q)) (e1.trans e2))
  intro Z3 fl fv lc3 hp3 s3 z3 r3 R3 e3 h3
  have zz : Z ⊆ Z3 := fun _ q => z3 (z2 (z1 q))
  have ee : Same s s3 := (e1.trans e2).trans e3
  have again : (∃ m, m < n ∧ I m lc3 hp3) → ∃ m, m < n ∧ ∃ Z' lc' hp', Z ⊆ Z' ∧ Same s s3 ∧ Rel C Z' lc' hp' s3.heap ∧ I m lc' hp' := fun ⟨m, a, b⟩ => ⟨m, a, Z3, lc3, hp3, zz, ee, R3, b⟩
  cases fl with
  | next => cases r3; exact again h3
  | cont => cases r3; exact again h3
  | brk => cases r3; exact nn Z3 .next .next lc3 hp3 s3 zz rfl R3 ee h3
  | ret rv => obtain ⟨ru, rfl, dr⟩ := r3; exact nn Z3 (.ret rv) (.ret ru) lc3 hp3 s3 zz ⟨ru, rfl, dr⟩ R3 ee h3
theorem OpAssign.name {n : Str} {p : Pos} {v : V} {k : Unit → Loc → HP → Prop} (h : OpStore C n v k x lc hp) : OpAssign C (.Name n p) v k x lc hp := by
 intro Z s Q E us ok R d nn y
 exact PyProof.Rows.assign_Name (h Z s Q E us ok R d nn y)
theorem OpAssign.tup2 {e1 e2 : PySem.Expr} {kk : Nat} {p : Pos} {a b : V} {k : Unit → Loc → HP → Prop} (h : OpAssign C e1 a (fun _ lc hp => OpAssign C e2 b k x lc hp) x lc hp)
  (ha : assignEach [e1, e2] C.env = [(false, assign e1 C.env), (false, assign e2 C.env)]) : OpAssign C (.Tuple [e1, e2] kk p) (.tup [a, b]) k x lc hp := by
 intro Z s Q E us ok R d nn y
 obtain ⟨u, rfl, du⟩ := den1 d
 obtain ⟨m, mu, fo, X, lo⟩ := R
 obtain ⟨t, items, rfl, L, D⟩ := tup_at X du
 refine unpackN_ X.F X.N L ok.hand (by rw [ha, denL_size D]; rfl) (by rw [ha]; rfl) fun h' F' N' => ?_
 rw [ha]
 simp only [denL] at D
 obtain ⟨v1, _, e0, d1, v2, _, rfl, d2, rfl⟩ := D
 rw [e0]
 refine assignInOrder_cons (h Z _ _ _ [v1] ok ⟨m, mu, fo, ⟨F', N', X.nd, X.dj, X.pr, X.hp⟩, lo⟩ ⟨v1, [], rfl, d1, rfl⟩ ?_ (y.step (sub_refl Z) (Same.mk' ..)))
 intro Z2 _ _ lc2 hp2 s2 z2 _ R2 e2 h2
 refine assignInOrder_cons (h2 Z2 _ _ _ [v2] ok R2 ⟨v2, [], rfl, d2.mono z2, rfl⟩ ?_ ((y.step (sub_refl Z) (Same.mk' ..)).step z2 e2))
 intro Z3 _ _ lc3 hp3 s3 z3 _ R3 e3 h3
 exact assignInOrder_nil (nn Z3 () () lc3 hp3 s3 (fun _ q => z3 (z2 q)) trivial R3 (((Same.mk' ..).trans e2).trans e3) h3)
theorem SX.assignSwap3 {elts : List PySem.Expr} {kk : Nat} {p pos : Pos} {e : PySem.Expr} {n1 n2 n3 : Str} {k : Fl → Loc → HP → Prop}
  (h : SE C e (fun v lc hp => ∃ a b c, v = .tup [a, b, c] ∧ OpStore C n3 c (fun _ lc hp => OpStore C n2 b (fun _ lc hp => OpStore C n1 a (fun _ lc hp => k .next lc hp) x lc hp) x lc hp) x lc hp) x lc hp)
  (h1 : swapsWithSole [.Tuple elts kk p] e pos.line C.env = pure false) (h2 : swappedStores [.Tuple elts kk p] e C.env = pure (some [n1, n2, n3])) : SX C (.Assign [.Tuple elts kk p] e pos) k x lc hp := by
 intro Z s Q E us ok R d nn y
 refine Assign_Tuple_swapped (h Z s _ _ us ok R d ?_ y) h1 h2
 intro Z1 v u lc1 hp1 s1 z1 r1 R1 e1 h1
 obtain ⟨a, b, c, rfl, h1⟩ := h1
 obtain ⟨m, mu, fo, X, lo⟩ := R1
 obtain ⟨t, items, rfl, L, D⟩ := tup_at X r1
 refine unpackItemsN_ X.F X.N L ok.hand (by rw [denL_size D]; rfl) fun h' F' N' => ?_
 simp only [denL] at D
 obtain ⟨v1, _, e0, d1, v2, _, rfl, d2, v3, _, rfl, d3, rfl⟩ := D
 rw [e0]
 simp only [List.reverse_cons, List.reverse_nil, List.nil_append, List.cons_append, List.map_cons, List.map_nil]
 have y1 := (y.step z1 e1)
 refine assignInOrder_cons (bindName_ (h1 Z1 _ _ _ [v3] ok ⟨m, mu, fo, ⟨F', N', X.nd, X.dj, X.pr, X.hp⟩, lo⟩ ⟨v3, [], rfl, d3, rfl⟩ ?_ (y1.step (sub_refl Z1) (Same.mk' ..))))
 intro Z2 _ _ lc2 hp2 s2 z2 _ R2 e2 h2
 refine assignInOrder_cons (bindName_ (h2 Z2 _ _ _ [v2] ok R2 ⟨v2, [], rfl, d2.mono z2, rfl⟩ ?_ ((y1.step (sub_refl Z1) (Same.mk' ..)).step z2 e2)))
 intro Z3 _ _ lc3 hp3 s3 z3 _ R3 e3 h3
 refine assignInOrder_cons (bindName_ (h3 Z3 _ _ _ [v1] ok R3 ⟨v1, [], rfl, d1.mono (fun _ q => z3 (z2 q)), rfl⟩ ?_ (((y1.step (sub_refl Z1) (Same.mk' ..)).step z2 e2).step z3 e3)))
 intro Z4 _ _ lc4 hp4 s4 z4 _ R4 e4 h4
 exact assignInOrder_nil (nn Z4 .next .next lc4 hp4 s4 (fun _ q => z4 (z3 (z2 (z1 q)))) rfl R4 (e1.trans ((((Same.mk' ..).trans e2).trans e3).trans e4)) h4)
noncomputable def OptE (C : Fm) (e : Option PySem.Expr) (k : Option Int → Loc → HP → Prop) (x : HP → Prop) (lc : Loc) (hp : HP) : Prop := match e with
 | none => k none lc hp
 | some e => SE C e (fun v lc hp => ∃ i, v = .int i ∧ k (some i) lc hp) x lc hp
noncomputable def OpSlice (C : Fm) (value slice : PySem.Expr) (v : V) (lo hi : Option Int) (k : V → Loc → HP → Prop) (x : HP → Prop) (lc : Loc) (hp : HP) : Prop :=
 ∀ vl vu, IsPart vl lo → IsPart vu hi → ∀ Z s Q E u, FmOk C → Rel C Z lc hp s.heap → den C.W Z v u → NK C (den C.W) k Z s Q → XK C x Z s E →
  wpAny (model pw C.W.w) C.A (newFields "slice" [vl, vu, .none]) (fun i s₂ => wpAny (model pw C.W.w) C.A (subscriptTail value slice u i) Q E s₂) E s
theorem optE_run {e : Option PySem.Expr} {k : Option Int → Loc → HP → Prop} (h : OptE C e k x lc hp) {Z : Led} {s : Shared} {Q : Value → Shared → Prop} {E : Value → Shared → Prop} (ok : FmOk C) (R : Rel C Z lc hp s.heap) (y : XK C x Z s E)
  (nn : ∀ Z' vl o lc' hp' s', Z ⊆ Z' → IsPart vl o → Rel C Z' lc' hp' s'.heap → Same s s' → k o lc' hp' → Q vl s') : wpAny (model pw C.W.w) C.A (evalPart e C.env) Q E s := by
 cases e with
 | none => exact wpAny_evalPart_none (nn Z .none none lc hp s (sub_refl Z) .none R (Same.refl s) h)
 | some e =>
  refine wpAny_evalPart_some (h Z s _ _ [] ok R rfl ?_ y)
  intro Z' v u lc' hp' s' z r R' y' kk
  obtain ⟨i, rfl, kk⟩ := kk
  obtain ⟨t, rfl⟩ := r
  exact nn Z' _ (some i) lc' hp' s' z (.int i t) R' y' kk
theorem eval_Slice (lo hi : Option PySem.Expr) (p : Pos) (env : Env) : eval (.Slice lo hi none p) env = (do
   let l ← evalPart lo env
   let u ← holding [l] (evalPart hi env)
   let s ← holding [l, u] (evalPart none env)
   newFields "slice" [l, u, s]) := by
 rw [arm_eval_Slice]
 cases lo <;> cases hi <;> rfl
theorem SE.slice {value : PySem.Expr} {lo hi : Option PySem.Expr} {p pos : Pos} {k : V → Loc → HP → Prop}
  (h : SE C value (fun v lc hp => OptE C lo (fun a lc hp => OptE C hi (fun b lc hp => OpSlice C value (.Slice lo hi Option.none p) v a b k x lc hp) x lc hp) x lc hp) x lc hp) :
  SE C (.Subscript value (.Slice lo hi Option.none p) pos) k x lc hp := by
 intro Z s Q E us ok R d nn y
 refine Subscript_ (h Z s _ _ us ok R d ?_ y)
 intro Z1 v u lc1 hp1 s1 z1 r1 R1 e1 h1
 rw [eval_Slice]
 refine wpAny_bind (optE_run h1 ok R1 (y.step z1 e1) ?_)
 intro Z2 vl a lc2 hp2 s2 z2 pl R2 e2 h2
 refine wpAny_bind (wpAny_holding (optE_run h2 ok R2 ((y.step z1 e1).step z2 e2) ?_))
 intro Z3 vu b lc3 hp3 s3 z3 pu R3 e3 h3
 refine wpAny_bind (wpAny_holding (wpAny_evalPart_none ?_))
 exact h3 vl vu pl pu Z3 s3 Q E u ok R3 ((r1.mono z2).mono z3) (((nn.step z1 e1).step z2 e2).step z3 e3) (((y.step z1 e1).step z2 e2).step z3 e3)
noncomputable def cut {α : Type} (lo hi : Option Int) (l : List α) : List α := (match hi with | some j => l.take j.toNat | none => l).drop (match lo with | some i => i.toNat | none => 0)
noncomputable def nonneg (o : Option Int) : Prop := ∀ i, o = some i → 0 ≤ i
theorem clip_cut (n : Nat) (i : Int) (h : 0 ≤ i) : clipAt n i = min i.toNat n := by
 obtain ⟨k, rfl⟩ := Int.eq_ofNat_of_zero_le h
 rw [clipAt_nat]; rfl
theorem cut_key {α : Type} (l : List α) (a b : Nat) : (l.drop (min a l.length)).take (min b l.length - min a l.length) = (l.take b).drop a := by
 apply List.ext_getElem?
 intro i
 simp only [List.getElem?_take, List.getElem?_drop]
 by_cases h1 : i < min b l.length - min a l.length
 ·rw [if_pos h1, if_pos (by exact oc2 h1)]
  congr 1; exact oq1 h1
 ·rw [if_neg h1]
  by_cases h2 : a + i < b
  ·rw [if_pos h2, eq_comm, List.getElem?_eq_none_iff]; exact ol1 h1 h2
  ·rw [if_neg h2]
theorem pick_cut (items : Array Value) (lo hi : Option Int) (h1 : nonneg lo) (h2 : nonneg hi) : (slicePick items lo hi none).toList = cut lo hi items.toList := by
 rw [slicePick_plain]
 cases lo with
 | none =>
  cases hi with
  | none => simp [cut]; exact List.take_of_length_le (Nat.le_refl _)
  | some j =>
   have := cut_key items.toList 0 j.toNat
   simp only [Option.elim, cut, clip_cut _ j (h2 j rfl)]
   simpa using this
 | some i =>
  cases hi with
  | none =>
   have := cut_key items.toList i.toNat items.size
   simp only [Option.elim, cut, clip_cut _ i (h1 i rfl)]
   rw [List.take_of_length_le (i := items.size) (l := items.toList) (by simp)] at this
   simpa using this
  | some j =>
   have := cut_key items.toList i.toNat j.toNat
   simp only [Option.elim, cut, clip_cut _ i (h1 i rfl), clip_cut _ j (h2 j rfl)]
   simpa using this
theorem strIdx (lo hi : Option Int) (n : Nat) : Builtin.Str.strSliceIndices lo hi 1 n = sliceRange (sliceBounds lo hi none n).1 (sliceBounds lo hi none n).2.1 1 := by
 cases lo <;> cases hi <;> simp [Builtin.Str.strSliceIndices, sliceBounds]
theorem strCut (l : List Nat) (lo hi : Option Int) (h1 : nonneg lo) (h2 : nonneg hi) : (Txt.slice ⟨l.toArray⟩ lo hi) = ⟨(cut lo hi l).toArray⟩ := by
 have key : ((Builtin.Str.strSliceIndices lo hi 1 (⟨l.toArray⟩ : Str).length).filterMap ((⟨l.toArray⟩ : Str).cps[·]?)) = cut lo hi l := by
  rw [strIdx, sliceBounds_plain]
  simp only [sliceRange_one, pick_run, Str.length, List.size_toArray]
  have z := fun a b => cut_key l a b
  cases lo with
  | none =>
   cases hi with
   | none => simp [cut]
   | some j =>
    have := z 0 j.toNat
    simp only [Option.elim, cut, clip_cut _ j (h2 j rfl)]
    simpa using this
  | some i =>
   cases hi with
   | none =>
    have := z i.toNat l.length
    simp only [Option.elim, cut, clip_cut _ i (h1 i rfl)]
    simpa using this
   | some j =>
    have := z i.toNat j.toNat
    simp only [Option.elim, cut, clip_cut _ i (h1 i rfl), clip_cut _ j (h2 j rfl)]
    simpa using this
 unfold Txt.slice
 split
 ·rename_i q
  have len : (Builtin.Str.strSliceIndices lo hi 1 (⟨l.toArray⟩ : Str).length).length = l.length := by simpa [Str.length] using q
  congr 1
  have e2 : cut lo hi l = l := by
   have l1 : (cut lo hi l).length ≤ l.length := by unfold cut; cases hi <;> cases lo <;> simp <;> omega
   rw [strIdx, sliceBounds_plain, sliceRange_one, List.length_map, List.length_range] at len
   simp only [Str.length, List.size_toArray] at len
   unfold cut
   cases lo with
   | none =>
    cases hi with
    | none => rfl
    | some j =>
     simp only [Option.elim, clip_cut _ j (h2 j rfl)] at len
     simp only [List.drop_zero]
     exact List.take_of_length_le (by exact ox3 len)
   | some i =>
    simp only [Option.elim, clip_cut _ i (h1 i rfl)] at len
    cases hi with
    | none =>
     simp only at len ⊢
     rcases Nat.eq_zero_or_pos i.toNat with q0 | q0
     ·rw [q0]; rfl
     ·have : l.length = 0 := by exact of4 len q0
      rw [List.length_eq_zero_iff.mp this]; simp
    | some j =>
     simp only [clip_cut _ j (h2 j rfl)] at len ⊢
     rcases Nat.eq_zero_or_pos i.toNat with q0 | q0
     ·rw [q0, List.drop_zero]; exact List.take_of_length_le (by exact ou1 len)
     ·have : l.length = 0 := by exact ob3 len q0
      rw [List.length_eq_zero_iff.mp this]; simp
  rw [e2]
 ·rw [key]
theorem denL_take {W : Wd} {Z : Led} {l : List V} {vs : List Value} (d : denL W Z l vs) (n : Nat) : denL W Z (l.take n) (vs.take n) := by
 rw [denL_iff] at d ⊢
 refine ⟨by simp [d.1], fun i y v e1 e2 => ?_⟩
 rw [List.getElem?_take] at e1 e2
 split at e1
 ·rename_i q; rw [if_pos q] at e2; exact d.2 i y v e1 e2
 ·cases e1
theorem denL_drop {W : Wd} {Z : Led} {l : List V} {vs : List Value} (d : denL W Z l vs) (n : Nat) : denL W Z (l.drop n) (vs.drop n) := by
 rw [denL_iff] at d ⊢
 refine ⟨by simp [d.1], fun i y v e1 e2 => ?_⟩
 rw [List.getElem?_drop] at e1 e2
 exact d.2 _ y v e1 e2
theorem denL_cut {W : Wd} {Z : Led} {l : List V} {vs : List Value} (d : denL W Z l vs) (lo hi : Option Int) : denL W Z (cut lo hi l) (cut lo hi vs) := by
 unfold cut
 cases hi with
 | none => exact denL_drop d _
 | some j => exact denL_drop (denL_take d _) _
theorem RelX.push2 {Z : Led} {h : Heap} {m : Str → Option Value} {mu : Mut} {fo : Led} (X : RelX C Z hp h m mu fo) (o : Obj) (hf : o.isFreed = false) : RelX C Z hp (h.push o) m mu fo :=
 (X.push o hf) |> fun Y => ⟨Y.F, fun p hp => Y.N p (by rcases List.mem_append.mp hp with q | q; exact List.mem_append_left _ (.tail _ q); exact List.mem_append_right _ q), Y.nd, fun p hp => Y.dj p (.tail _ hp), Y.pr, fun a ob e => X.hp a ob e⟩
theorem OpSlice.lst {value slice : PySem.Expr} {v : V} {l : List V} {lo hi : Option Int} {k : V → Loc → HP → Prop} (il : IsLst hp v l) (h1 : nonneg lo) (h2 : nonneg hi) (hz : l.length ≤ 1048576) (h : k (.lst (cut lo hi l)) lc hp) : OpSlice C value slice v lo hi k x lc hp := by
 intro vl vu pl pu Z s Q E u ok R d nn y
 obtain ⟨m, mu, fo, X, lo'⟩ := R
 obtain ⟨a, items, rfl, L, D⟩ := lst_at X il d
 have sz := denL_size D
 refine wpAny_newObj_type ?_ (by show 3 ≤ sizeLine + 2; decide)
 obtain ⟨ops, hs⟩ := subOk slice (.ref a) (.ref s.heap.objs.size)
 have X1 := X.push2 { cls := .type "slice", data := .fields #[vl, vu, .none] } rfl
 have D' : denL C.W Z (cut lo hi l) (slicePick items lo hi none).toList := by rw [pick_cut _ _ _ h1 h2]; exact denL_cut D lo hi
 have X2 := X1.push (listOf (slicePick items lo hi none) 0) rfl
 refine tail_any (s := { s with heap := s.heap.push { cls := .type "slice", data := .fields #[vl, vu, .none] } }) (Heap.IsList.typeIs (L.push _)) list_getitem_lookup
  (wpAny_getItem_list_slice (L.push _) (Heap.IsSliceOf.new ..) pl pu .none (by simp) ?_ (by rw [sz]; exact Nat.le_trans hz (by decide))) hs
 refine nn _ (.lst (cut lo hi l)) _ lc hp _ (fun _ q => .tail _ q) ?_ ⟨m, mu, fo, X2, lo'.mono fun _ q => .tail _ q⟩ (Same.mk' s _ s.toks) h
 simp only [den]
 exact ⟨_, _, slicePick items lo hi none, 0, rfl, .inr (.head _), rfl, rfl, D'.mono fun _ q => .tail _ q⟩
theorem OpSlice.str {value slice : PySem.Expr} {l : List Nat} {lo hi : Option Int} {k : V → Loc → HP → Prop} (h1 : nonneg lo) (h2 : nonneg hi) (hz : l.length ≤ 1048576) (h : k (.str (cut lo hi l)) lc hp) : OpSlice C value slice (.str l) lo hi k x lc hp := by
 intro vl vu pl pu Z s Q E u ok R d nn y
 obtain ⟨t, rfl⟩ := d
 obtain ⟨m, mu, fo, X, lo'⟩ := R
 refine wpAny_newObj_type ?_ (by show 3 ≤ sizeLine + 2; decide)
 obtain ⟨ops, hs⟩ := subOk slice (.str ⟨l.toArray⟩ t) (.ref s.heap.objs.size)
 have hz' : (⟨l.toArray⟩ : Str).length ≤ sizeLine := by simp only [Str.length, List.size_toArray]; exact Nat.le_trans hz (by decide)
 have fin : ∀ h' t' k', Fr C.W.base C.L h' m → News C.W.base C.L h' (Z ++ (mu.map (·.2) ++ fo)) → Q (.str (Txt.slice ⟨l.toArray⟩ lo hi) t') { s with heap := h', toks := k' } := fun h' t' k' F' N' => by
  rw [strCut _ _ _ h1 h2]
  exact nn Z (.str (cut lo hi l)) _ lc hp _ (sub_refl Z) ⟨t', rfl⟩ ⟨m, mu, fo, ⟨F', N', X.nd, X.dj, X.pr, X.hp⟩, lo'⟩ (Same.mk' s h' k') h
 have go : ItemOn (model pw C.W.w) C.A E (.str ⟨l.toArray⟩ t) (.ref s.heap.objs.size) Q { s with heap := s.heap.push { cls := .type "slice", data := .fields #[vl, vu, .none] } } := by
  cases pl with
  | none =>
   cases pu with
   | none => exact SBH.sliceItem_nn keptFrN ⟨X.F, X.N⟩ (fun h' t' k a => fin h' t' k a.1 a.2) hz'
   | int j tj => exact SBH.sliceItem_ns keptFrN ⟨X.F, X.N⟩ (fun h' t' k a => fin h' t' k a.1 a.2) hz'
  | int i ti =>
   cases pu with
   | none => exact SBH.sliceItem_sn keptFrN ⟨X.F, X.N⟩ (fun h' t' k a => fin h' t' k a.1 a.2) hz'
   | int j tj => exact SBH.sliceItem_ss keptFrN ⟨X.F, X.N⟩ (fun h' t' k a => fin h' t' k a.1 a.2) hz'
 obtain ⟨T, id, g1, g2, g3⟩ := go
 exact tail_any g2 g1 g3 hs
end
end Mine
end
section
open PySem PySem.W PyProof.Rows PySem.Calls
namespace Mine
mutual
noncomputable def V.pd : V → PyData
 | .none => .none
 | .bool b => .bool b
 | .int i => .int i
 | .str s => .str ⟨s.toArray⟩
 | .tup l => .tuple (pds l)
 | .lst l => .list (pds l)
 | _ => .none
noncomputable def pds : List V → List PyData
 | [] => []
 | x :: r => x.pd :: pds r
end
mutual
noncomputable def V.isD : V → Bool
 | .none => true
 | .bool _ => true
 | .int _ => true
 | .str _ => true
 | .tup l => isDs l
 | .lst l => isDs l
 | _ => false
noncomputable def isDs : List V → Bool
 | [] => true
 | x :: r => x.isD && isDs r
end
section
variable {C : Fm} {x : HP → Prop} {lc : Loc} {hp : HP} {k : V → Loc → HP → Prop}
mutual
theorem reads_of {Z : Led} {h : Heap} {m : Str → Option Value} {mu : Mut} {fo : Led} (X : RelX C Z hp h m mu fo) : ∀ (v : V) {u : Value}, v.isD = true → den C.W Z v u → ∃ as, Reads h u v.pd as
 | .none, _, _, d => by obtain rfl := (d : _ = Value.none); exact ⟨_, .none⟩
 | .bool b, _, _, d => by obtain rfl := (d : _ = Value.bool b); exact ⟨_, .bool b⟩
 | .int i, _, _, d => by obtain ⟨t, rfl⟩ := d; exact ⟨_, .int i t⟩
 | .str s, _, _, d => by obtain ⟨t, rfl⟩ := d; exact ⟨_, .str _ t⟩
 | .tup l, _, q, d => by
  simp only [den] at d
  obtain ⟨a, o, vs, n, rfl, H, c, dd, D⟩ := d
  obtain ⟨as, ra⟩ := readsAll_of X l (by simpa [V.isD] using q) D
  exact ⟨_, reads_tuple_at (X.has H) c dd ra⟩
 | .lst l, _, q, d => by
  simp only [den] at d
  obtain ⟨a, o, vs, n, rfl, H, c, dd, D⟩ := d
  obtain ⟨as, ra⟩ := readsAll_of X l (by simpa [V.isD] using q) D
  exact ⟨_, reads_list_at (X.has H) c dd ra⟩
 | .dict _ _, _, q, _ => by simp [V.isD] at q
 | .inst _ _ _, _, q, _ => by simp [V.isD] at q
 | .ref _, _, q, _ => by simp [V.isD] at q
 | .raw _, _, q, _ => by simp [V.isD] at q
 | .rng _ _, _, q, _ => by simp [V.isD] at q
theorem readsAll_of {Z : Led} {h : Heap} {m : Str → Option Value} {mu : Mut} {fo : Led} (X : RelX C Z hp h m mu fo) : ∀ (l : List V) {us : List Value}, isDs l = true → denL C.W Z l us → ∃ as, ReadsAll h us (pds l) as
 | [], _, _, d => by simp only [denL] at d; subst d; exact ⟨_, .nil⟩
 | v :: r, _, q, d => by
  simp only [denL] at d
  obtain ⟨u, us, rfl, d1, D⟩ := d
  simp only [isDs, Bool.and_eq_true] at q
  obtain ⟨as, r1⟩ := reads_of X v q.1 d1
  obtain ⟨bs, r2⟩ := readsAll_of X r q.2 D
  exact ⟨_, .cons r1 r2⟩
end
noncomputable def IsDat (hp : HP) (v : V) (d : PyData) : Prop := (v.isD = true ∧ d = v.pd) ∨ ∃ a l, v = .ref a ∧ hp a = some (.list l) ∧ isDs l = true ∧ d = .list (pds l)
theorem IsDat.f {v : V} (h : v.isD = true) : IsDat hp v v.pd := .inl ⟨h, rfl⟩
theorem IsDat.m {a : Addr} {l : List V} (e : hp a = some (.list l)) (h : isDs l = true) : IsDat hp (.ref a) (.list (pds l)) := .inr ⟨a, l, rfl, e, h, rfl⟩
theorem IsDat.reads {Z : Led} {h : Heap} {m : Str → Option Value} {mu : Mut} {fo : Led} (X : RelX C Z hp h m mu fo) {v : V} {d : PyData} (i : IsDat hp v d) {u : Value} (dn : den C.W Z v u) : ∃ as, Reads h u d as := by
 rcases i with ⟨q, rfl⟩ | ⟨a, l, rfl, e, q, rfl⟩
 ·exact reads_of X v q dn
 ·obtain ⟨key, items, rfl, ⟨o, g, c, n, dd⟩, D⟩ := lst_at X (IsLst.m e) dn
  obtain ⟨as, ra⟩ := readsAll_of X l q D
  exact ⟨_, reads_list_at g c dd ra⟩
theorem OpCmp.eqD {a b : V} {da db : PyData} (ia : IsDat hp a da) (ib : IsDat hp b db) (sa : SeqAt.shaped da = true) (sb : SeqAt.shaped db = true) (h : k (.bool (PyData.eqv da db)) lc hp) : OpCmp C .Eq a b k x lc hp := by
 intro Z s Q E us ok R d nn y
 obtain ⟨u, v, rfl, d1, d2⟩ := den2 d
 obtain ⟨m, mu, fo, X, l⟩ := id R
 obtain ⟨as, ra⟩ := ia.reads X d1
 obtain ⟨bs, rb⟩ := ib.reads X d2
 have hu := ok.units
 exact eq_dataH ra rb sa sb (by exact oi2 hu) (nn Z (.bool _) _ lc hp _ (sub_refl Z) rfl R (Same.refl ..) h)
theorem OpCmp.neD {a b : V} {da db : PyData} (ia : IsDat hp a da) (ib : IsDat hp b db) (sa : SeqAt.shaped da = true) (sb : SeqAt.shaped db = true) (h : k (.bool (!PyData.eqv da db)) lc hp) : OpCmp C .NotEq a b k x lc hp := by
 intro Z s Q E us ok R d nn y
 obtain ⟨u, v, rfl, d1, d2⟩ := den2 d
 obtain ⟨m, mu, fo, X, l⟩ := id R
 obtain ⟨as, ra⟩ := ia.reads X d1
 obtain ⟨bs, rb⟩ := ib.reads X d2
 have hu := ok.units
 exact ne_dataH ra rb sa sb (by exact oi2 hu) (nn Z (.bool _) _ lc hp _ (sub_refl Z) rfl R (Same.refl ..) h)
open Classical in
theorem in_items {Z : Led} {h : Heap} {m : Str → Option Value} {mu : Mut} {fo : Led} (X : RelX C Z hp h m mu fo) {l : List V} {items : Array Value} {v : V} {u : Value} {s : Shared} (hs : s.heap = h) {A : Around} (hu : A.units + 1 < cLine)
  (il : isDs l = true) (D : denL C.W Z l items.toList) (iv : v.isD = true) (dv : den C.W Z v u) (cl : ∀ y ∈ l, y.pd.canLay0 = true) (cv : v.pd.canLay0 = true) (dep : v.pd.depth = 0) :
  ∃ e : Value → Bool, (∀ y, y ∈ items → SeqAt.EqAt A s y u (e y)) ∧ items.any e = l.any (fun y => PyData.eqv y.pd v.pd) := by
 have at_ : ∀ (j : Nat) (y : V) (w : Value), l[j]? = some y → items[j]? = some w → SeqAt.EqAt A s w u (PyData.eqv y.pd v.pd) := fun j y w e1 e2 => by
  have dw : den C.W Z y w := by
   obtain ⟨w', h1, h2⟩ := denL_at D e1
   rw [e2] at h1; cases h1; exact h2
  have qy : y.isD = true := by
   clear D e2 cl
   induction l generalizing j with
   | nil => simp at e1
   | cons z r ih =>
    simp only [isDs, Bool.and_eq_true] at il
    cases j with
    | zero => simp at e1; subst e1; exact il.1
    | succ j => exact ih il.2 j (by simpa using e1)
  obtain ⟨as, ra⟩ := reads_of X y qy dw
  obtain ⟨bs, rb⟩ := reads_of X v iv dv
  exact SeqAt.eqAt_reads _ _ A s w u as bs (hs ▸ ra) (hs ▸ rb) (cl y (List.mem_of_getElem? e1)) cv (by rw [dep]; exact ot5 hu)
 refine ⟨fun w => decide (∃ (j : Nat) (y : V), l[j]? = some y ∧ items[j]? = some w ∧ PyData.eqv y.pd v.pd = true), fun w hw => ?_, ?_⟩
 ·dsimp only
  by_cases q : ∃ (j : Nat) (y : V), l[j]? = some y ∧ items[j]? = some w ∧ PyData.eqv y.pd v.pd = true
  ·rw [decide_eq_true q]
   obtain ⟨j, y, e1, e2, e3⟩ := q
   rw [← e3]; exact at_ j y w e1 e2
  ·rw [decide_eq_false q]
   obtain ⟨j, hj, e⟩ := Array.mem_iff_getElem.mp hw
   have e2 : items[j]? = some w := by rw [Array.getElem?_eq_getElem hj, e]
   have hlt : j < l.length := by rw [← denL_size D]; exact hj
   have e1 : l[j]? = some l[j] := List.getElem?_eq_getElem hlt
   have e3 : PyData.eqv l[j].pd v.pd = false := by
    cases z : PyData.eqv l[j].pd v.pd with
    | false => rfl
    | true => exact absurd ⟨j, _, e1, e2, z⟩ q
   rw [← e3]; exact at_ j _ w e1 e2
 ·rw [Bool.eq_iff_iff, Array.any_eq_true, List.any_eq_true]
  constructor
  ·rintro ⟨j, hj, e⟩
   obtain ⟨j', y, e1, e2, e3⟩ := of_decide_eq_true e
   exact ⟨y, List.mem_of_getElem? e1, e3⟩
  ·rintro ⟨y, hy, e3⟩
   obtain ⟨j, hj, e⟩ := List.mem_iff_getElem.mp hy
   have e1 : l[j]? = some y := by rw [List.getElem?_eq_getElem hj, e]
   have hj' : j < items.size := by rw [denL_size D]; exact hj
   exact ⟨j, hj', decide_eq_true ⟨j, y, e1, Array.getElem?_eq_getElem hj', e3⟩⟩
theorem OpCmp.inL {c v : V} {l : List V} (il : IsLst hp c l) (dl : isDs l = true) (dv : v.isD = true) (cl : ∀ y ∈ l, y.pd.canLay0 = true) (cv : v.pd.canLay0 = true) (dep : v.pd.depth = 0) (h : k (.bool (l.any fun y => PyData.eqv y.pd v.pd)) lc hp) : OpCmp C .In v c k x lc hp := by
 intro Z s Q E us ok R d nn y
 obtain ⟨u, w, rfl, d1, d2⟩ := den2 d
 obtain ⟨m, mu, fo, X, lo⟩ := id R
 obtain ⟨a, items, rfl, L, D⟩ := lst_at X il d2
 have hu := ok.units
 obtain ⟨e, h1, h2⟩ := in_items X (s := s) rfl (A := C.A.in1) (by show C.A.units + 1 + 1 < _; exact oj0 hu) dl D dv d1 cl cv dep
 exact SeqAt.in_listAt e L h1 (nn Z (.bool _) _ lc hp _ (sub_refl Z) (by rw [h2]; rfl) R (Same.refl ..) h)
theorem OpCmp.notInL {c v : V} {l : List V} (il : IsLst hp c l) (dl : isDs l = true) (dv : v.isD = true) (cl : ∀ y ∈ l, y.pd.canLay0 = true) (cv : v.pd.canLay0 = true) (dep : v.pd.depth = 0) (h : k (.bool (!l.any fun y => PyData.eqv y.pd v.pd)) lc hp) : OpCmp C .NotIn v c k x lc hp := by
 intro Z s Q E us ok R d nn y
 obtain ⟨u, w, rfl, d1, d2⟩ := den2 d
 obtain ⟨m, mu, fo, X, lo⟩ := id R
 obtain ⟨a, items, rfl, L, D⟩ := lst_at X il d2
 have hu := ok.units
 obtain ⟨e, h1, h2⟩ := in_items X (s := s) rfl (A := C.A.in1) (by show C.A.units + 1 + 1 < _; exact oj0 hu) dl D dv d1 cl cv dep
 exact SeqAt.notIn_listAt e L h1 (nn Z (.bool _) _ lc hp _ (sub_refl Z) (by rw [h2]; rfl) R (Same.refl ..) h)
theorem OpCmp.inT {v : V} {l : List V} (dl : isDs l = true) (dv : v.isD = true) (cl : ∀ y ∈ l, y.pd.canLay0 = true) (cv : v.pd.canLay0 = true) (dep : v.pd.depth = 0) (h : k (.bool (l.any fun y => PyData.eqv y.pd v.pd)) lc hp) : OpCmp C .In v (.tup l) k x lc hp := by
 intro Z s Q E us ok R d nn y
 obtain ⟨u, w, rfl, d1, d2⟩ := den2 d
 obtain ⟨m, mu, fo, X, lo⟩ := id R
 obtain ⟨a, items, rfl, L, D⟩ := tup_at X d2
 have hu := ok.units
 obtain ⟨e, h1, h2⟩ := in_items X (s := s) rfl (A := C.A.in1) (by show C.A.units + 1 + 1 < _; exact oj0 hu) dl D dv d1 cl cv dep
 exact SeqAt.in_tupleAt e L h1 (nn Z (.bool _) _ lc hp _ (sub_refl Z) (by rw [h2]; rfl) R (Same.refl ..) h)
theorem OpCmp.notInT {v : V} {l : List V} (dl : isDs l = true) (dv : v.isD = true) (cl : ∀ y ∈ l, y.pd.canLay0 = true) (cv : v.pd.canLay0 = true) (dep : v.pd.depth = 0) (h : k (.bool (!l.any fun y => PyData.eqv y.pd v.pd)) lc hp) : OpCmp C .NotIn v (.tup l) k x lc hp := by
 intro Z s Q E us ok R d nn y
 obtain ⟨u, w, rfl, d1, d2⟩ := den2 d
 obtain ⟨m, mu, fo, X, lo⟩ := id R
 obtain ⟨a, items, rfl, L, D⟩ := tup_at X d2
 have hu := ok.units
 obtain ⟨e, h1, h2⟩ := in_items X (s := s) rfl (A := C.A.in1) (by show C.A.units + 1 + 1 < _; exact oj0 hu) dl D dv d1 cl cv dep
 exact SeqAt.notIn_tupleAt e L h1 (nn Z (.bool _) _ lc hp _ (sub_refl Z) (by rw [h2]; rfl) R (Same.refl ..) h)
noncomputable def V.isNone : V → Bool
 | .none => true
 | _ => false
theorem OpCmp.isN {v : V} (hr : v.handed = true) (h : k (.bool v.isNone) lc hp) : OpCmp C .Is v .none k x lc hp := by
 intro Z s Q E us ok R d nn y
 obtain ⟨u, w, rfl, d1, rfl⟩ := den2 d
 refine is_none (nn Z (.bool _) _ lc hp _ (sub_refl Z) ?_ R (Same.refl ..) h)
 show Value.bool _ = _
 congr 1
 cases v with
 | raw u => cases hr
 | none => obtain rfl : u = .none := d1; rfl
 | bool b => obtain rfl : u = .bool b := d1; rfl
 | int i => obtain ⟨t, rfl⟩ := d1; rfl
 | str l => obtain ⟨t, rfl⟩ := d1; rfl
 | ref a => obtain rfl : u = .ref a := d1; rfl
 | tup l => simp only [den] at d1; obtain ⟨a, _, _, _, rfl, _⟩ := d1; rfl
 | lst l => simp only [den] at d1; obtain ⟨a, _, _, _, rfl, _⟩ := d1; rfl
 | dict l l2 => simp only [den] at d1; obtain ⟨a, _, _, rfl, _⟩ := d1; rfl
 | inst c a b => simp only [den] at d1; obtain ⟨a, _, _, _, rfl, _⟩ := d1; rfl
 | rng a b => simp only [den] at d1; obtain ⟨a, _, _, _, rfl, _⟩ := d1; rfl
end
end Mine
end
section
open PySem PySem.W PyProof.Rows PySem.Calls
namespace Mine
section
variable {C : Fm} {x : HP → Prop} {lc : Loc} {hp : HP} {k : V → Loc → HP → Prop}
theorem RelX.grow {Z : Led} {h h' : Heap} {m : Str → Option Value} {mu : Mut} {fo : Led} (X : RelX C Z hp h m mu fo) {a : Addr} {o : Obj} (F' : Fr C.W.base C.L h' m) (N' : News C.W.base C.L h' ((a, o) :: (Z ++ (mu.map (·.2) ++ fo)))) (ha : ∀ p ∈ mu.map (·.2) ++ fo, p.1 ≠ a) :
  RelX C ((a, o) :: Z) hp h' m mu fo := by
 refine ⟨F', N', X.nd, fun p hp => ?_, X.pr, fun b ob e => ?_⟩
 ·rcases List.mem_cons.mp hp with rfl | hp
  ·intro q
   obtain ⟨r, hr, e⟩ := List.mem_map.mp q
   exact ha r hr e
  ·exact X.dj p hp
 ·obtain ⟨key, ob', m1, c⟩ := X.hp b ob e
  exact ⟨key, ob', m1, c.mono fun _ q => .tail _ q⟩
theorem RelX.keeps {Z : Led} {h h' : Heap} {m : Str → Option Value} {mu : Mut} {fo : Led} (X : RelX C Z hp h m mu fo) (hk : ∀ b o, h.get? b = some o → h'.get? b = some o) : RelX C Z hp h' m mu fo :=
 ⟨X.F.keeps hk, fun p hp => ⟨hk _ _ (X.N p hp).1, (X.N p hp).2⟩, X.nd, X.dj, X.pr, X.hp⟩
theorem RelX.ne_of_le {Z : Led} {h : Heap} {m : Str → Option Value} {mu : Mut} {fo : Led} (X : RelX C Z hp h m mu fo) {a : Addr} (ha : h.objs.size ≤ a) : ∀ p ∈ mu.map (·.2) ++ fo, p.1 ≠ a := fun p hp q => by
 have := Heap.lt_size (X.N p (List.mem_append_right _ hp)).1
 rw [q] at this
 exact absurd ha (Nat.not_le.mpr this)
theorem isList_toArray {h : Heap} {a : Addr} {items : Array Value} (L : h.IsList a items) : h.IsList a items.toList.toArray := by simpa using L
theorem OpBin.addL {va vb : V} {la lb : List V} (ia : IsLst hp va la) (ib : IsLst hp vb lb) (hz : la.length + lb.length ≤ 1048576) (h : k (.lst (la ++ lb)) lc hp) : OpBin C .Add va vb k x lc hp := by
 intro Z s Q E us ok R d nn y
 obtain ⟨u, v, rfl, d1, d2⟩ := den2 d
 obtain ⟨m, mu, fo, X, l⟩ := R
 obtain ⟨a, its, rfl, La, Da⟩ := lst_at X ia d1
 obtain ⟨b, its2, rfl, Lb, Db⟩ := lst_at X ib d2
 refine add_lists X.F X.N (isList_toArray La) (isList_toArray Lb) (fun h' F' N' => ?_) (by rw [denL_length Da, denL_length Db]; exact Nat.le_trans hz (by decide))
 have X' := X.grow F' N' (X.ne_of_le (Nat.le_refl _))
 refine nn _ (.lst (la ++ lb)) _ lc hp _ (fun _ q => .tail _ q) ?_ ⟨m, mu, fo, X', l.mono fun _ q => .tail _ q⟩ (Same.mk' s h' s.toks) h
 simp only [den]
 exact ⟨_, _, (its.toList ++ its2.toList).toArray, 0, rfl, .inr (.head _), rfl, rfl, (by simpa using denL_append Da Db : denL C.W Z (la ++ lb) _).mono fun _ q => .tail _ q⟩
theorem foldl_rep (items : Array Value) : ∀ (n : Nat) (acc : Array Value), (List.foldl (fun x1 x2 => x1 ++ x2) acc (List.replicate n items)).toList = acc.toList ++ (List.replicate n items.toList).flatten
 | 0, acc => by simp
 | n + 1, acc => by
  rw [List.replicate_succ, List.foldl_cons, foldl_rep items n, List.replicate_succ, List.flatten_cons]
  simp
theorem denL_rep {W : Wd} {Z : Led} {l : List V} {vs : List Value} (d : denL W Z l vs) : ∀ n : Nat, denL W Z (List.replicate n l).flatten (List.replicate n vs).flatten
 | 0 => rfl
 | n + 1 => by
  rw [List.replicate_succ, List.replicate_succ, List.flatten_cons, List.flatten_cons]
  exact denL_append d (denL_rep d n)
theorem OpBin.mulL {a : Addr} {l : List V} {n : Nat} (e : hp a = some (.list l)) (hl : l ≠ []) (hz : l.length * n ≤ 1048576) (hn : n < 1048576) (h : k (.lst (List.replicate n l).flatten) lc hp) : OpBin C .Mult (.ref a) (.int n) k x lc hp := by
 intro Z s Q E us ok R d nn y
 obtain ⟨u, v, rfl, d1, ⟨t, rfl⟩⟩ := den2 d
 obtain rfl : u = .ref a := d1
 obtain ⟨m, mu, fo, X, lo⟩ := R
 obtain ⟨key, ob, m1, rfl, vs, n0, rfl, D⟩ := X.hp a _ e
 have g := (X.N (key, listOf vs n0) (List.mem_append_right _ (List.mem_append_left _ (List.mem_map_of_mem m1)))).1
 have sz := denL_size D
 refine mul_list X.F X.N g (by omega) (by omega) (by rw [sz]; simp only [Int.toNat_natCast]; omega) fun h' F' N' => ?_
 have X' := X.grow F' N' (X.ne_of_le (Nat.le_refl _))
 refine nn _ (.lst _) _ lc hp _ (fun _ q => .tail _ q) ?_ ⟨m, mu, fo, X', lo.mono fun _ q => .tail _ q⟩ (Same.mk' s h' s.toks) h
 simp only [den]
 refine ⟨_, _, _, 0, rfl, .inr (.head _), rfl, rfl, ?_⟩
 rw [foldl_rep]
 have hne : vs.isEmpty = false := by
  cases hq : vs.isEmpty with
  | false => rfl
  | true =>
   have : vs.size = 0 := by simpa [Array.isEmpty] using hq
   rw [sz] at this
   exact absurd (List.length_eq_zero_iff.mp this) hl
 rw [hne]
 simp only [Bool.false_eq_true, if_false, Int.toNat_natCast]
 exact ((denL_rep D n).mono fun _ q => .tail _ q : denL C.W (_ :: Z) _ _)
theorem OpCall.range1 {n : Int} (h : k (.rng 0 n) lc hp) : OpCall C (.raw (.type "range")) [.int n] k x lc hp := by
 intro Z s Q E us ok R d nn y
 obtain ⟨_, _, rfl, rfl, ⟨t, rfl⟩⟩ := den2 d
 obtain ⟨m, mu, fo, X, lo⟩ := R
 have X' := X.push (rngO 0 n s.toks t (s.toks + 1)) rfl
 refine call_range_1 (nn _ (.rng 0 n) _ lc hp _ (fun _ q => .tail _ q) ?_ ⟨m, mu, fo, X', lo.mono fun _ q => .tail _ q⟩ (Same.mk' s _ _) h)
 simp only [den]
 exact ⟨_, _, _, _, rfl, .inr (.head _)⟩
theorem OpCall.range2 {a b : Int} (h : k (.rng a b) lc hp) : OpCall C (.raw (.type "range")) [.int a, .int b] k x lc hp := by
 intro Z s Q E us ok R d nn y
 simp only [denL] at d
 obtain ⟨_, _, rfl, rfl, _, _, rfl, ⟨t, rfl⟩, _, _, rfl, ⟨u, rfl⟩, rfl⟩ := d
 obtain ⟨m, mu, fo, X, lo⟩ := R
 have X' := X.push (rngO a b t u s.toks) rfl
 refine call_range_2 (nn _ (.rng a b) _ lc hp _ (fun _ q => .tail _ q) ?_ ⟨m, mu, fo, X', lo.mono fun _ q => .tail _ q⟩ (Same.mk' s _ _) h)
 simp only [den]
 exact ⟨_, _, _, _, rfl, .inr (.head _)⟩
noncomputable def rngL (a b : Int) : List V := (List.range (b - a).toNat).map (fun i => V.int (a + (i : Nat)))
theorem carried_ints {W : Wd} {Z : Led} : ∀ {ns : List Int} {vs : List Value}, CarriedAll vs (ns.map .int) → denL W Z (ns.map .int) vs
 | [], vs, h => by cases h; rfl
 | n :: r, _, h => by
  cases h with
  | cons h1 h2 =>
   cases h1
   exact ⟨_, _, rfl, ⟨_, rfl⟩, carried_ints h2⟩
theorem OpCall.listR {a b : Int} (hsm : Builtin.Range.small a b 1 = true) (hz : (b - a).toNat ≤ 1048576) (h : k (.lst (rngL a b)) lc hp) : OpCall C (.raw (.type "list")) [.rng a b] k x lc hp := by
 intro Z s Q E us ok R d nn y
 obtain ⟨_, u, rfl, rfl, du⟩ := den2 d
 obtain ⟨m, mu, fo, X, lo⟩ := R
 simp only [den] at du
 obtain ⟨r, t, u', z, rfl, H⟩ := du
 have hsz : Builtin.Range.rangeSize a b 1 = ((b - a).toNat : Nat) := by rw [rangeSize_one]; split <;> omega
 refine list_rangeD ok.hand X.F X.N (X.has H) hsm hsz (Nat.le_trans hz (by decide)) fun h' tk ys F' N' hk h0 hl np hc => ?_
 obtain ⟨⟨n, g⟩, nk⟩ := np
 have X' : RelX C ((s.heap.objs.size, listOf ys.toArray n) :: Z) hp h' m mu fo := X.grow F' (fun p hp => by
  rcases List.mem_cons.mp hp with rfl | hp
  ·exact ⟨g, fun q => by have := X.F.ns.lt; rw [← q] at this; exact Nat.lt_irrefl _ this, h0⟩
  ·exact N' p hp) (X.ne_of_le (Nat.le_refl _))
 refine nn _ (.lst (rngL a b)) _ lc hp _ (fun _ q => .tail _ q) ?_ ⟨m, mu, fo, X', lo.mono fun _ q => .tail _ q⟩ (Same.mk' s h' tk) h
 simp only [den]
 refine ⟨_, _, ys.toArray, n, rfl, .inr (.head _), rfl, rfl, ?_⟩
 have := carried_ints (W := C.W) (Z := (s.heap.objs.size, listOf ys.toArray n) :: Z) hc
 unfold rngL
 simpa [rangeInts, Function.comp_def] using this
theorem OpCall.tupleL {v : V} {l : List V} (il : IsLst hp v l) (hz : l.length ≤ 1048576) (h : k (.tup l) lc hp) : OpCall C (.raw (.type "tuple")) [v] k x lc hp := by
 intro Z s Q E us ok R d nn y
 obtain ⟨_, u, rfl, rfl, du⟩ := den2 d
 obtain ⟨m, mu, fo, X, lo⟩ := R
 obtain ⟨a, items, rfl, L, D⟩ := lst_at X il du
 refine call_tuple_list L (fun h' hk => ?_) (by rw [denL_size D]; exact Nat.le_trans hz (by decide))
 have X' := (X.keeps hk).push (tupO items 0) rfl
 refine nn _ (.tup l) _ lc hp _ (fun _ q => .tail _ q) ?_ ⟨m, mu, fo, X', lo.mono fun _ q => .tail _ q⟩ (Same.mk' s _ s.toks) h
 simp only [den]
 exact ⟨_, _, items, 0, rfl, .inr (.head _), rfl, rfl, D.mono fun _ q => .tail _ q⟩
theorem OpCall.listL {v : V} {l : List V} (il : IsLst hp v l) (hz : l.length ≤ 1048576) (h : k (.lst l) lc hp) : OpCall C (.raw (.type "list")) [v] k x lc hp := by
 intro Z s Q E us ok R d nn y
 obtain ⟨_, u, rfl, rfl, du⟩ := den2 d
 obtain ⟨m, mu, fo, X, lo⟩ := R
 obtain ⟨a, items, rfl, L, D⟩ := lst_at X il du
 obtain ⟨o, g, c, n, dd⟩ := L
 refine call_list_seq a (.inl rfl) g c dd (fun h' c' hk hg => ?_) (by rw [denL_size D]; exact Nat.le_trans hz (by decide))
 have N2 : News C.W.base C.L h' ((s.heap.objs.size, listOf items c') :: (Z ++ (mu.map (·.2) ++ fo))) := fun p hp => by
  rcases List.mem_cons.mp hp with rfl | hp
  ·refine ⟨hg, fun q => by have := X.F.ns.lt; rw [← q] at this; exact Nat.lt_irrefl _ this, ?_⟩
   cases q : C.W.base.get? s.heap.objs.size with
   | none => rfl
   | some o' => exact absurd (Heap.lt_size (X.F.keep _ _ q)) (Nat.lt_irrefl _)
  ·exact ⟨hk _ _ (X.N p hp).1, (X.N p hp).2⟩
 have X' := X.grow (X.F.keeps hk) N2 (X.ne_of_le (Nat.le_refl _))
 refine nn _ (.lst l) _ lc hp _ (fun _ q => .tail _ q) ?_ ⟨m, mu, fo, X', lo.mono fun _ q => .tail _ q⟩ (Same.mk' s h' s.toks) h
 simp only [den]
 exact ⟨_, _, items, c', rfl, .inr (.head _), rfl, rfl, D.mono fun _ q => .tail _ q⟩
theorem OpCall.abs {i : Int} (h : k (.int (i.natAbs : Int)) lc hp) : OpCall C (.raw (.builtin "abs")) [.int i] k x lc hp := by
 intro Z s Q E us ok R d nn y
 obtain ⟨_, _, rfl, rfl, ⟨t, rfl⟩⟩ := den2 d
 refine call_abs_int fun u tk => nn Z (.int (i.natAbs : Int)) _ lc hp _ (sub_refl Z) ⟨u, ?_⟩ R (Same.mk' ..) h
 congr 1
 split <;> omega
theorem OpCall.intI {i : Int} (h : k (.int i) lc hp) : OpCall C (.raw (.type "int")) [.int i] k x lc hp := by
 intro Z s Q E us ok R d nn y
 obtain ⟨_, _, rfl, rfl, ⟨t, rfl⟩⟩ := den2 d
 exact call_int_int (nn Z (.int i) _ lc hp _ (sub_refl Z) ⟨_, rfl⟩ R (Same.refl ..) h)
theorem OpBin.pow {i j : Int} (h0 : 0 ≤ j) (hb : (Builtin.Int.intBits i : Int) * j ≤ 2 ^ 27) (h : k (.int (i ^ j.toNat)) lc hp) : OpBin C .Pow (.int i) (.int j) k x lc hp := by
 intro Z s Q E us ok R d nn y
 obtain ⟨_, _, rfl, ⟨t, rfl⟩, ⟨t', rfl⟩⟩ := den2 d
 exact pow_int h0 hb (nn Z (.int _) _ lc hp _ (sub_refl Z) ⟨_, rfl⟩ R (Same.mk' ..) h)
end
end Mine
end
section
open PySem PySem.W PyProof.Rows PySem.Calls
namespace Mine
structure CompOf (C : Fm) (scope : Scope) (cl : List (Str × Addr)) (C' : Fm) : Prop where
 W : C'.W = C.W
 sc : C'.env.scope = relabel scope C.env
 cl : C'.env.cells = cl
 rm : C'.rm = C.rm
noncomputable def HP.le (hp hp' : HP) : Prop := ∀ a o, hp a = some o → hp' a = some o
noncomputable def CTest (C : Fm) (ifs : List PySem.Expr) (k : Bool → Loc → HP → Prop) (x : HP → Prop) (lc : Loc) (hp : HP) : Prop := match ifs with
 | [] => k true lc hp
 | [c] => ST C c (eval c C.env) k x lc hp
 | _ => False
section
variable {C : Fm} {x : HP → Prop} {lc : Loc} {hp : HP} {k : V → Loc → HP → Prop}
theorem ctest_run {ifs : List PySem.Expr} {kb : Bool → Loc → HP → Prop} (h : CTest C ifs kb x lc hp) {Z : Led} {s : Shared} {Q : Bool → Shared → Prop} {E : Value → Shared → Prop} (ok : FmOk C) (R : Rel C Z lc hp s.heap) (y : XK C x Z s E)
  (nn : NK C (fun _ (b a : Bool) => a = b) kb Z s Q) :
  wpAny (model pw C.W.w) C.A (forIn ifs true fun c r => if r = true then do let ok ← isTrue c C.env (eval c C.env); pure (ForInStep.yield ok) else pure (ForInStep.yield r)) Q E s := by
 match ifs, h with
 | [], h => exact wpAny_pure (nn Z true true lc hp s (sub_refl Z) rfl R (Same.refl s) h)
 | [c], h =>
  simp only [List.forIn_cons, List.forIn_nil, if_true]
  refine wpAny_bind (wpAny_bind (wpAny_mono (h Z s _ _ [] ok R rfl nn y) (fun b s' hb => wpAny_pure (wpAny_pure hb)) fun _ _ e => e))
theorem Rel.weakenL {Z : Led} {lc lc' : Loc} {h : Heap} (R : Rel C Z lc hp h) (hl : ∀ x v, lc'.lookup x = some v → lc.lookup x = some v) : Rel C Z lc' hp h := R.weaken hl fun _ _ e => e
theorem HP.set_set (hp : HP) (a : Addr) (o o' : O) : (hp.set a o).set a o' = hp.set a o' := by
 funext b
 unfold HP.set
 split <;> rfl
theorem HP.set_get (hp : HP) (a : Addr) (o : O) : (hp.set a o) a = some o := by unfold HP.set; rw [if_pos rfl]
theorem HP.le_set {hp : HP} {a : Addr} (h : hp a = none) (o : O) : HP.le hp (hp.set a o) := fun b ob e => by
 unfold HP.set
 rw [if_neg (fun q => by rw [q, h] at e; cases e)]
 exact e
theorem leave_but {C' : Fm} {m : Str → Option Value} (hW : C'.W = C.W) (hpr : C'.prot = (C.L, m) :: C.prot) (hab : C.W.base.objs.size ≤ C.L) {Z : Led} {h h' : Heap} {m' : Str → Option Value} {mu : Mut} {fo' : Led} (X : RelX C' Z hp h m' mu fo') (hs : Heap.SameBut C'.L h h') :
  ∃ fo, RelX C Z hp h' m mu fo := by
 have N' := X.N
 have ab := X.F.above
 obtain ⟨o, fo, rfl, X2⟩ := leave_rel hW hpr hab X
 have nL : C.L ≠ C'.L := (N' (C.L, o) (List.mem_append_right _ (List.mem_append_right _ (.head _)))).2.1
 obtain ⟨oL, g1, g2⟩ := ns_iff.mp X2.F.ns
 refine ⟨fo, ⟨ns_iff.mpr ⟨oL, (hs.2 _ nL).trans g1, g2⟩, fun b ob q => (hs.2 b fun z => ?_).trans (X2.F.keep b ob q), X2.F.above⟩, fun p hp => ⟨(hs.2 _ ?_).trans (X2.N p hp).1, (X2.N p hp).2⟩, X2.nd, X2.dj, X2.pr, X2.hp⟩
 ·rw [hW] at ab
  have := Heap.lt_size q
  rw [z] at this
  exact absurd ab (Nat.not_le.mpr this)
 ·refine (N' p ?_).2.1
  rcases List.mem_append.mp hp with hp | hp
  ·exact List.mem_append_left _ hp
  ·rcases List.mem_append.mp hp with hp | hp
   ·exact List.mem_append_right _ (List.mem_append_left _ hp)
   ·exact List.mem_append_right _ (List.mem_append_right _ (.tail _ hp))
theorem regroup {Z6 : Led} {h : Heap} {m : Str → Option Value} {mu : Mut} {fo : Led} {it : Addr} {o2 : Obj} (X6 : RelX C Z6 hp h m mu fo) (inZ : (it, o2) ∈ Z6) : Z6 ⊆ (it, o2) :: Led.drop Z6 it ∧ (it, o2) :: Led.drop Z6 it ⊆ Z6 := by
 have g6 := (X6.N (it, o2) (List.mem_append_left _ inZ)).1
 refine ⟨fun p hp => ?_, fun p hp => ?_⟩
 ·by_cases q : p.1 = it
  ·have g := (X6.N p (List.mem_append_left _ hp)).1
   rw [q, g6] at g
   cases g
   obtain ⟨pa, pb⟩ := p
   simp only at q
   subst q
   exact .head _
  ·exact .tail _ (mem_drop.mpr ⟨hp, q⟩)
 ·rcases List.mem_cons.mp hp with rfl | hp
  ·exact inZ
  ·exact (mem_drop.mp hp).1
theorem dropSub {Z : Led} {it : Addr} {o : Obj} (nd : ∀ p ∈ Z, p.1 ≠ it) : Led.drop ((it, o) :: Z) it ⊆ Z := fun p hp => by
 obtain ⟨h1, h2⟩ := mem_drop.mp hp
 rcases List.mem_cons.mp h1 with q | q
 ·subst q; exact absurd rfl h2
 ·exact q
theorem dropNv {Z : Led} {it : Addr} {o : Obj} (nd : ∀ p ∈ Z, p.1 ≠ it) (hv : notVal o) : ∀ ob, (it, ob) ∈ (it, o) :: Z → notVal ob := fun ob hm => by
 rcases List.mem_cons.mp hm with q | q
 ·cases q; exact hv
 ·exact absurd rfl (nd _ q)
theorem noX {C' : Fm} {Z : Led} {s : Shared} {E : Value → Shared → Prop} : XK C' (fun _ => False) Z s E := fun _ _ _ _ _ _ _ h => h.elim
theorem SE_listComp {elt iter : PySem.Expr} {ifs : List PySem.Expr} {scope : Scope} {cl : List (Str × Addr)} {n : Str} {p pos : Pos}
  (h : SE C iter (fun v lc hp => ∃ (l : List V) (f : V → V) (q : V → Bool), IterV C v l ∧ l.length ≤ 1048576 ∧
   (∀ C' hp' y, CompOf C scope cl C' → HP.le hp hp' → y ∈ l →
    CTest C' ifs (fun b lc2 hp2 => hp2 = hp' ∧ b = q y ∧ (b = true → SE C' elt (fun v _ hp3 => hp3 = hp' ∧ v = f y) (fun _ => False) lc2 hp2)) (fun _ => False) [(n, y)] hp') ∧
   k (.lst ((l.filter q).map f)) lc hp) x lc hp)
  (hs : ∀ v, foldedSetIterable iter C.env v = pure v) (hclos : closureFor scope C.env = pure cl) (hkind : scope.kind = .function) (hcell : ∀ y ∈ scope.names, y.2 ≠ .cell)
  (hnames : ∀ y ∈ scope.names, y.2 = .local → scope.names.lookup y.1 = some .local) (hx : scope.names.lookup n = some .local) : SE C (.ListComp elt [⟨.Name n p, iter, ifs, 0⟩] scope pos) k x lc hp := by
 intro Z s Q E us ok R d nn y
 rw [eval_ListComp]
 refine wpAny_comprehension_free (use := none) rfl hs hclos hkind hnames (h Z s _ _ us ok R d ?_ y)
 intro Z1 v u lc1 hp1 s1 z1 r1 R1 e1 h1
 obtain ⟨l, f, q, iv, hz, body, fin⟩ := h1
 refine iter_start ok R1 r1 iv fun it P o s2 ip p0 R2 n2 e2 => ?_
 obtain ⟨m, mu, fo, X2, lo⟩ := R2
 -- the list to be
 refine wpAny_newObj_type ?_ (by show 0 ≤ sizeLine; exact Nat.zero_le _)
 have XD := X2.pushM (listOf #[] 0) (.list []) rfl ⟨rfl, #[], 0, rfl, rfl⟩
 have hDn : hp1 s2.heap.objs.size = none := hp_none X2 (Nat.le_refl _)
 generalize hDe : s2.heap.objs.size = D at XD hDn ⊢
 generalize hH : s2.heap.push (listOf #[] 0) = H at XD
 -- the frame of the comprehension
 refine wpAny_newFunctionEnv hcell (by intro y hy; simp at hy) (fun h₁ hns hsb => ?_) hkind
 clear hH
 let C' : Fm := { W := C.W, A := C.A, env := compEnvC scope cl H.objs.size C.env, L := H.objs.size, fenv := C.fenv, prot := (C.L, m) :: C.prot, rm := C.rm, top := false }
 have hk₁ : ∀ b o, H.get? b = some o → h₁.get? b = some o := fun b o e => hsb.extBut b o (Nat.ne_of_lt (Heap.lt_size e)) (Heap.get?_push_of_some _ e)
 obtain ⟨oL, X0⟩ := enter_rel (s := { s2 with heap := H }) (C' := C') XD rfl rfl rfl hns hk₁
 have hab := X2.F.above
 have ok' : FmOk C' := by
  refine ⟨ok.wok, hkind, rfl, ok.hgl, ok.hbi, ok.hfr, ok.hand, fun h => (by cases h), fun h => (by cases h), fun env he => ?_, ok.depth, ok.units⟩
  obtain ⟨a1, L', a2, a3⟩ := ok.hmem env he
  refine ⟨a1, L', a2, .inr ?_⟩
  rcases a3 with rfl | a3
  ·exact .head _
  ·exact .tail _ a3
 have cof : CompOf C scope cl C' := ⟨rfl, rfl, rfl, rfl⟩
 have loop : ∀ s3 : Shared, s3 = { s2 with heap := h₁, toks := s2.toks + ([] : List (Str × Value)).length } →
   codeAny (model pw C.W.w) C.A (.compLoop (.ListComp elt [⟨.Name n p, iter, ifs, 0⟩] scope pos) 0 (.ref it) (.ref D) (compEnvC scope cl H.objs.size C.env)) (compPost (model pw C.W.w) C.A E none Q (.ref D) H.objs.size) s3 := by
  rintro s3 rfl
  refine codeAny_compLoop_tests (fun k' s' => ∃ i Zd o', k' = l.length - i ∧ i ≤ l.length ∧ Z1 ⊆ Zd ∧ (∀ p ∈ Zd, p.1 ≠ it) ∧ P i o' ∧ Same s2 s' ∧ Rel C' ((it, o') :: Zd) [] (hp1.set D (.list (((l.take i).filter q).map f))) s'.heap) ?_ (l.length - 0)
   ⟨0, Z1, o, rfl, Nat.zero_le _, sub_refl _, n2, p0, Same.mk' s2 h₁ _, _, _, _, X0, fun x v e => by simp at e⟩
  rintro k' s' ⟨i, Zd, o', rfl, hi, zd, nd, pi, sm, m3, mu3, fo3, X3, -⟩
  have hit := (X3.N (it, o') (.head _)).1
  have hk : ∀ a o, Has C.W Z1 a o → s'.heap.get? a = some o := fun a o H => X3.has (H.mono fun _ q => .tail _ (zd q))
  cases hx' : l[i]? with
  | none =>
   refine ip.stop i s' _ _ o' hk hit pi hx' fun h' he => ?_
   have X4 := X3.itStop nd (ip.nv i o' pi) he
   have hil : i = l.length := Nat.le_antisymm hi (List.getElem?_eq_none_iff.mp hx')
   subst hil
   rw [List.take_length] at X4
   refine ⟨m3, X4.F.ns, fun h'' hs'' => ?_⟩
   obtain ⟨fo4, X5⟩ := leave_but (C := C) (C' := C') rfl rfl hab X4 hs''
   obtain ⟨Z6, mu6, z6, d6, X6⟩ := X5.freeze (HP.set_get hp1 D _) rfl
   have lo6 : LocOk C.W Z6 lc1 m := ((lo.drop (dropNv n2 (ip.nv 0 o p0))).mono (dropSub n2)).mono fun _ q => z6 (zd q)
   refine nn Z6 (.lst ((l.filter q).map f)) (.ref D) lc1 hp1 _ (fun _ q => z6 (zd (z1 q))) d6 (Rel.weaken ⟨m, mu6, fo4, X6, lo6⟩ (fun _ _ e => e) fun a ob e => ?_) (((e1.trans e2).trans sm).trans (Same.mk' s' h'' s'.toks)) fin
   have ne : a ≠ D := fun q => by rw [q, hDn] at e; cases e
   unfold HP.del HP.set
   rw [if_neg ne, if_neg ne]; exact e
  | some yv =>
   refine ip.next i yv Zd s' _ _ o' zd hk hit pi hx' fun h' t' w o2 dw ho2 p2 hs2 => ?_
   have X' := X3.itTurn nd (ip.nv i o' pi) hs2 ho2
   have sub1 : Zd ⊆ (it, o2) :: Zd := fun _ q => .tail _ q
   have hlt := (List.getElem?_eq_some_iff.mp hx').1
   have hy : yv ∈ l := List.mem_of_getElem? hx'
   have st : OpAssign C' (.Name n p) yv (fun _ lc' hp' => lc' = [(n, yv)] ∧ hp' = hp1.set D (.list (((l.take i).filter q).map f))) (fun _ => False) [] (hp1.set D (.list (((l.take i).filter q).map f))) :=
    OpAssign.name (OpStore.loc (lookup_relabel_local hx) ⟨rfl, rfl⟩)
   refine st ((it, o2) :: Zd) _ _ _ [w] ok' ⟨m3, mu3, fo3, X', fun x v e => by simp at e⟩ ⟨w, [], rfl, dw.mono (fun _ q => sub1 (zd q)), rfl⟩ ?_ noX
   rintro Z5 _ _ lc5 hp5 s5 z5 _ R5 e5 ⟨rfl, rfl⟩
   refine ctest_run (body C' _ yv cof (HP.le_set hDn _) hy) ok' R5 noX ?_
   rintro Z6 b a lc6 hp6 s6 z6 r6 R6 e6 ⟨rfl, rfl, h6⟩
   subst r6
   have smAll : Same s2 s6 := (sm.trans (Same.mk' s' h' t')).trans (e5.trans e6)
   have again : ∀ (Z7 : Led) (s7 : Shared), Z6 ⊆ Z7 → Same s6 s7 → (∀ acc, acc = ((l.take (i + 1)).filter q).map f → Rel C' Z7 [] (hp1.set D (.list acc)) s7.heap) → ∃ m, m < l.length - i ∧ ∃ i Zd o', m = l.length - i ∧ i ≤ l.length ∧ Z1 ⊆ Zd ∧ (∀ p ∈ Zd, p.1 ≠ it) ∧ P i o' ∧ Same s2 s7 ∧ Rel C' ((it, o') :: Zd) [] (hp1.set D (.list (((l.take i).filter q).map f))) s7.heap := by
    intro Z7 s7 z7 e7 R7
    obtain ⟨m7, mu7, fo7, X7, lo7⟩ := R7 _ rfl
    have inZ : (it, o2) ∈ Z7 := z7 (z6 (z5 (.head _)))
    have z1all : Z1 ⊆ Z7 := fun _ q => z7 (z6 (z5 (sub1 (zd q))))
    obtain ⟨a1, a2⟩ := regroup X7 inZ
    exact ⟨l.length - (i + 1), by exact oa1 hlt, i + 1, Led.drop Z7 it, o2, rfl, hlt, fun p hp => mem_drop.mpr ⟨z1all hp, nd p (zd hp)⟩, fun p hp => (mem_drop.mp hp).2, p2, smAll.trans e7, m7, mu7, fo7, X7.congrZ a1 a2, fun x v e => by simp at e⟩
   have tk : l.take (i + 1) = l.take i ++ [yv] := by rw [List.take_add_one, hx']; rfl
   cases hq : q yv with
   | false =>
    rw [if_neg (by simp)]
    exact again Z6 s6 (sub_refl _) (Same.refl _) fun acc e => by
     rw [e, tk, List.filter_append, List.map_append]
     simp only [List.filter_cons, hq, Bool.false_eq_true, if_false, List.filter_nil, List.map_nil, List.append_nil]
     exact R6.weakenL fun x v e => by simp at e
   | true =>
    rw [if_pos rfl]
    refine h6 hq Z6 s6 _ _ [] ok' R6 rfl ?_ noX
    rintro Z7 vv vu lc7 hp7 s7 z7 r7 R7 e7 ⟨rfl, rfl⟩
    have ap : OpCall C' (.raw (.builtin "list.append")) [.ref D, f yv] (fun _ _ hp' => hp' = hp1.set D (.list (((l.take i).filter q).map f ++ [f yv]))) (fun _ => False) lc7 (hp1.set D (.list (((l.take i).filter q).map f))) :=
     OpCall.append (HP.set_get hp1 D _) (by
      rw [List.length_map]
      exact Nat.le_trans (List.length_filter_le _ _) (Nat.le_trans (by rw [List.length_take]; exact Nat.min_le_right _ _) hz)) (HP.set_set ..)
    refine ap Z7 s7 _ _ [.builtin "list.append", .ref D, vu] ok' R7 ⟨_, _, rfl, rfl, _, _, rfl, rfl, vu, [], rfl, r7, rfl⟩ ?_ noX
    rintro Z8 _ _ lc8 hp8 s8 z8 _ R8 e8 rfl
    exact again Z8 s8 (fun _ q => z8 (z7 q)) (e7.trans e8) fun acc e => by
     rw [e, tk, List.filter_append, List.map_append]
     simp only [List.filter_cons, hq, if_true, List.filter_nil, List.map_cons, List.map_nil]
     exact R8.weakenL fun x v e => by simp at e
 exact codeAny_compStart_list (loop _ rfl) (ip.self 0 _ _ _ o (X0.N (it, o) (.head _)).1 p0 (loop _ rfl))
end
end Mine
end
section
open PySem PySem.W PyProof.Rows PySem.Calls
namespace Mine
structure CalleeC (C C' : Fm) (fd : FuncData) (rm : Nat) (cl : List (Str × Addr)) : Prop where
 W : C'.W = C.W
 sc : C'.env.scope = fd.scope
 cl : C'.env.cells = cl
 rm : C'.rm = rm
 hh : C'.A.handled = C.A.handled
 top : C'.top = true
noncomputable def HP.cells (hp : HP) (init : Str → Option V) : List (Str × Addr) → HP
 | [] => hp
 | (z, c) :: r => (HP.cells hp init r).set c (.cell (init z))
noncomputable def isLoc (sc : Scope) (n : Str) : Bool := match sc.names.lookup n with
 | some .local => true
 | _ => false
theorem isLoc_iff {sc : Scope} {n : Str} : isLoc sc n = true ↔ sc.names.lookup n = some .local := by
 unfold isLoc
 split
 ·rename_i e; simp [e]
 ·rename_i e
  constructor
  ·intro h; cases h
  ·intro h; exact absurd h (e)
theorem bindL_eq (kf : Str → Option NameKind) : ∀ (b : List (Str × Value)) (m : Str → Option Value) (y : Str), bindL kf b m y = if kf y = some .local then (b.reverse.lookup y).or (m y) else m y
 | [], m, y => by simp [bindL]
 | (n, v) :: r, m, y => by
  rw [bindL, bindL_eq kf r]
  rw [List.reverse_cons, lookup_append']
  by_cases h : kf y = some .local
  ·rw [if_pos h, if_pos h]
   cases q : r.reverse.lookup y with
   | some w => rfl
   | none =>
    simp only [Option.none_or, List.lookup_cons, List.lookup_nil]
    by_cases e : y = n
    ·subst e
     rw [if_pos h]; simp
    ·rw [show (y == n) = false from beq_eq_false_iff_ne.mpr e]
     simp only [Option.none_or]
     split
     ·exact if_neg e
     ·rfl
  ·rw [if_neg h, if_neg h]
   split
   ·rename_i h'
    by_cases e : y = n
    ·subst e; exact absurd h' h
    ·exact if_neg e
   ·rfl
theorem bindC_eq (kf : Str → Option NameKind) : ∀ (b : List (Str × Value)) (m : Str → Option Value) (y : Str), bindC kf b m y = if kf y = some .local then m y else (b.reverse.lookup y).or (m y)
 | [], m, y => by simp [bindC]
 | (n, v) :: r, m, y => by
  rw [bindC, bindC_eq kf r]
  rw [List.reverse_cons, lookup_append']
  by_cases h : kf y = some .local
  ·rw [if_pos h, if_pos h]
   split
   ·rfl
   ·rename_i h'
    by_cases e : y = n
    ·subst e; exact absurd h h'
    ·exact if_neg e
  ·rw [if_neg h, if_neg h]
   cases q : r.reverse.lookup y with
   | some w => rfl
   | none =>
    simp only [Option.none_or, List.lookup_cons, List.lookup_nil]
    by_cases e : y = n
    ·subst e
     rw [if_neg h]; simp
    ·rw [show (y == n) = false from beq_eq_false_iff_ne.mpr e]
     simp only [Option.none_or]
     split
     ·rfl
     ·exact if_neg e
theorem lookup_filter {q : Str → Bool} {y : Str} {v : V} : ∀ {l : List (Str × V)}, (l.filter fun p => q p.1).lookup y = some v → q y = true ∧ l.lookup y = some v
 | [], h => by simp at h
 | (n, w) :: r, h => by
  rw [List.filter_cons] at h
  cases hq : q n with
  | true =>
   simp only [hq, if_true, List.lookup_cons] at h ⊢
   cases e : y == n with
   | true => rw [e] at h; rw [beq_iff_eq.mp e]; exact ⟨hq, h⟩
   | false => rw [e] at h; exact lookup_filter h
  | false =>
   simp only [hq, Bool.false_eq_true, if_false] at h
   obtain ⟨a, b⟩ := lookup_filter h
   refine ⟨a, ?_⟩
   rw [List.lookup_cons]
   have : (y == n) = false := beq_eq_false_iff_ne.mpr fun e => by rw [e, hq] at a; cases a
   rw [this]; exact b
theorem lookup_zip_none {W : Wd} {Z : Led} : ∀ {ns : List Str} {vs : List V} {us : List Value}, denL W Z vs us → ∀ {x : Str}, (ns.zip vs).lookup x = none → (ns.zip us).lookup x = none
 | [], vs, us, _, x, e => by simp
 | n :: ns, [], us, d, x, e => by simp only [denL] at d; subst d; simp
 | n :: ns, y :: vs, us, d, x, e => by
  simp only [denL] at d
  obtain ⟨u, us', rfl, d1, d2⟩ := d
  simp only [List.zip_cons_cons, List.lookup_cons] at e ⊢
  cases hx : x == n with
  | true => rw [hx] at e; cases e
  | false => rw [hx] at e; exact lookup_zip_none d2 e
section
variable {C : Fm} {Z : Led} {hp : HP} {lc : Loc} {s : Shared} {x : HP → Prop}
theorem RelX.addM {h : Heap} {m : Str → Option Value} {mu : Mut} {fo : Led} (X : RelX C Z hp h m mu fo) {c : Addr} {ob : Obj} {o : O} (g : h.get? c = some ob) (nL : c ≠ C.L) (nb : C.W.base.get? c = none) (nk : ∀ p ∈ Z ++ (mu.map (·.2) ++ fo), p.1 ≠ c) (co : cellOk C.W Z c c ob o) :
  RelX C Z (hp.set c o) h m ((c, c, ob) :: mu) fo := by
 refine ⟨X.F, fun p hp => ?_, ?_, fun p hp q => ?_, X.pr, fun a o' e => ?_⟩
 ·rcases List.mem_append.mp hp with hp | hp
  ·exact X.N p (List.mem_append_left _ hp)
  ·rcases List.mem_cons.mp hp with rfl | hp
   ·exact ⟨g, nL, nb⟩
   ·exact X.N p (List.mem_append_right _ hp)
 ·refine List.nodup_cons.mpr ⟨fun q => ?_, X.nd⟩
  obtain ⟨r, hr, e⟩ := List.mem_map.mp q
  exact nk r (List.mem_append_right _ hr) e
 ·rcases List.mem_cons.mp q with q | q
  ·exact nk p (List.mem_append_left _ hp) q
  ·exact X.dj p hp q
 ·unfold HP.set at e
  by_cases q : a = c
  ·rw [if_pos q] at e; cases e; subst q
   exact ⟨_, ob, .head _, co⟩
  ·rw [if_neg q] at e
   obtain ⟨key, ob', h1, h2⟩ := X.hp a o' e
   exact ⟨key, ob', .tail _ h1, h2⟩
theorem addCells {h : Heap} {m : Str → Option Value} {mu : Mut} {fo : Led} (X : RelX C Z hp h m mu fo) {n : Nat} (hn : ∀ p ∈ Z ++ (mu.map (·.2) ++ fo), p.1 < n) (hL : C.L < n) (hb : ∀ c, n ≤ c → C.W.base.get? c = none) (init : Str → Option V) :
  ∀ (cl : List (Str × Addr)), (∀ p ∈ cl, n ≤ p.2) → (cl.map (·.2)).Nodup → (∀ p ∈ cl, ∃ ob v, h.get? p.2 = some ob ∧ ob.data = .cell v ∧ denO C.W Z (init p.1) v) →
  ∃ mu', RelX C Z (hp.cells init cl) h m mu' fo ∧ ∀ p ∈ mu'.map (·.2), p ∈ mu.map (·.2) ∨ p.1 ∈ cl.map (·.2)
 | [], _, _, _ => ⟨mu, X, fun p hp => .inl hp⟩
 | (z, c) :: r, h1, h2, h3 => by
  obtain ⟨n1, n2⟩ := List.nodup_cons.mp h2
  obtain ⟨mu', X', hm⟩ := addCells X hn hL hb init r (fun p hp => h1 p (.tail _ hp)) n2 (fun p hp => h3 p (.tail _ hp))
  obtain ⟨ob, v, g, hd, dv⟩ := h3 (z, c) (.head _)
  have hc : n ≤ c := h1 (z, c) (.head _)
  refine ⟨(c, c, ob) :: mu', X'.addM g (Nat.ne_of_gt (Nat.lt_of_lt_of_le hL hc)) (hb c hc) (fun p hp q => ?_) ⟨rfl, v, hd, dv⟩, fun p hp => ?_⟩
  ·have old : ∀ p' ∈ Z ++ (mu.map (·.2) ++ fo), p'.1 ≠ c := fun p' hp' e => by
    have := hn p' hp'
    rw [e] at this
    exact absurd hc (Nat.not_le.mpr this)
   rcases List.mem_append.mp hp with hp | hp
   ·exact old p (List.mem_append_left _ hp) q
   ·rcases List.mem_append.mp hp with hp | hp
    ·rcases hm p hp with hp | hp
     ·exact old p (List.mem_append_right _ (List.mem_append_left _ hp)) q
     ·rw [q] at hp; exact n1 hp
    ·exact old p (List.mem_append_right _ (List.mem_append_right _ hp)) q
  ·rcases List.mem_cons.mp hp with rfl | hp
   ·exact .inr (.head _)
   ·exact (hm p hp).imp id (fun q => .tail _ q)
theorem OpCall.fnC {fd : FuncData} {f : Addr} {body : List Stmt} {ns : List Str} {nv : Nat} {vs : List V} (rm : Nat) {k : V → Loc → HP → Prop}
  (G : FnOk C.W.w.params f fd body ns nv []) (hnv : vs.length = nv)
  (hkind : ∀ n, ∀ y ∈ ns, fd.scope.names.lookup y = some .local ∨ (fd.scope.names.lookup y = some .cell ∧ ((cellsFrom n fd.scope.names []).lookup y).isSome = true))
  (hndc : ∀ n, ((cellsFrom n fd.scope.names []).map (·.1)).Nodup) (hrm : rm < C.rm)
  (hb : ∀ C' n, CalleeC C C' fd rm (cellsFrom n fd.scope.names []) → (∀ c, n ≤ c → hp c = none) →
   SXs C' body (fun fl _ hp' => ∃ hp2, HP.le hp2 hp' ∧ k (retV fl) lc hp2) x ((ns.zip vs).filter fun p => isLoc fd.scope p.1) (hp.cells (fun z => if isLoc fd.scope z then none else (ns.zip vs).lookup z) (cellsFrom n fd.scope.names []))) : OpCall C (.ref f) vs k x lc hp := by
 obtain ⟨⟨oc, od, osl, hf⟩, hbody, hcode, hgl, hbi, hcls, hk, hco, hgen, hbind, hlen, hnd⟩ := G
 intro Z s Q E us ok R d nn y
 simp only [denL] at d
 obtain ⟨fu, us', rfl, d1, d2⟩ := d
 obtain rfl : fu = .ref f := d1
 have hdep := ok.depth
 have hun := ok.units
 obtain ⟨m, mu, fo, X, l⟩ := R
 have KX : (K C.W.w.params).In s.heap := ok.wok.X.keeps X.F.keep
 have hlu : us'.length = vs.length := denL_length d2
 have hbs := hbind us' (hlu.trans hnv) s KX
 rw [List.append_nil] at hbs
 have hlen : ns.length = vs.length := by rw [hlen, hnv]; rfl
 have hzk : (ns.zip us').map (·.1) = ns := zip_keys ns us' (by rw [hlen, hlu])
 refine wpAny_call ?_
 refine codeAny_call_function (by exact od6 hdep) (KX _ _ hf) rfl hco hgen hbody (codeRec_in KX hcode) (hbs _ _ _ _ ?_)
 rw [hcls]
 refine wpAny_newFunctionEnv_cells hk (fun z hz => hkind _ z.1 (hzk ▸ List.mem_map_of_mem hz)) fun env' he s' xx => ?_
 subst he
 refine ⟨(ok.wok.T.nolimit.keeps X.F.keep).keeps xx.toInCall.keep, codeAny_func ?_⟩
 have hns := xx.toInCall.ns
 have hk₁ := xx.toInCall.keep
 have hcel := xx.cell
 have habv := xx.above
 have hap := xx.apart
 obtain ⟨h₁, tk, rfl, _⟩ := xx.done
 let env : Env := newEnv fd.scope s.heap.objs.size fd.globals (cellsFrom (s.heap.objs.size + 1) fd.scope.names []) (fd.qualname ++ ".<locals>.") (some f) fd.code none fd.builtins
 let C' : Fm := { W := C.W, A := C.A.deeper env, env := env, L := s.heap.objs.size, fenv := env :: C.fenv, prot := (C.L, m) :: C.prot, rm := rm, top := true }
 have ok' : FmOk C' := by
  refine ⟨ok.wok, hk, rfl, hgl, hbi, ?_, ok.hand, fun _ => rfl, fun _ => ⟨_, rfl⟩, fun env he => ?_, ?_, ?_⟩
  ·show C.A.frames.map _ = _
   rw [ok.hfr]; rfl
  ·rcases List.mem_cons.mp he with rfl | he
   ·exact ⟨hk, s.heap.objs.size, rfl, .inl rfl⟩
   ·obtain ⟨a1, L', a2, a3⟩ := ok.hmem env he
    refine ⟨a1, L', a2, .inr ?_⟩
    rcases a3 with rfl | a3
    ·exact .head _
    ·exact .tail _ a3
  ·show C.A.depth + 1 + rm < _; exact ob8 hrm hdep
  ·show C.A.units + 3 + 8 * rm + 100 < _; exact ok6 hrm hun
 obtain ⟨oL, X'⟩ := enter_rel (C' := C') X rfl rfl rfl hns hk₁
 have hab := X.F.above
 have small : ∀ p ∈ Z ++ (mu.map (·.2) ++ (C.L, oL) :: fo), p.1 < s.heap.objs.size + 1 := fun p hp => by
  have key : p.1 = C.L ∨ p ∈ Z ++ (mu.map (·.2) ++ fo) := by
   rcases List.mem_append.mp hp with hp | hp
   ·exact .inr (List.mem_append_left _ hp)
   ·rcases List.mem_append.mp hp with hp | hp
    ·exact .inr (List.mem_append_right _ (List.mem_append_left _ hp))
    ·rcases List.mem_cons.mp hp with rfl | hp
     ·exact .inl rfl
     ·exact .inr (List.mem_append_right _ (List.mem_append_right _ hp))
  rcases key with q | q
  ·rw [q]; exact Nat.lt_succ_of_lt X.F.ns.lt
  ·exact Nat.lt_succ_of_lt (Heap.lt_size (X.N p q).1)
 have nob : ∀ c, s.heap.objs.size + 1 ≤ c → C.W.base.get? c = none := fun c hc => by
  cases q : C.W.base.get? c with
  | none => rfl
  | some o => exact absurd (Heap.lt_size (X.F.keep _ _ q)) (Nat.not_lt.mpr (Nat.le_of_succ_le hc))
 obtain ⟨mu2, X2, _⟩ := addCells X' small (Nat.lt_succ_self _) nob (fun z => if isLoc fd.scope z then none else (ns.zip vs).lookup z) (cellsFrom (s.heap.objs.size + 1) fd.scope.names [])
  (fun p hp => habv p.1 p.2 hp) (List.pairwise_map.mpr hap) (fun p hp => by
   obtain ⟨ob, g, hd⟩ := hcel p.1 p.2 (lookup_of_mem_nodup (hndc _) hp)
   refine ⟨ob, _, g, hd, ?_⟩
   rw [bindC_eq]
   show denO C.W Z (if isLoc fd.scope p.1 = true then none else _) (if fd.scope.names.lookup p.1 = some .local then _ else _)
   by_cases q : fd.scope.names.lookup p.1 = some .local
   ·rw [if_pos q, if_pos (isLoc_iff.mpr q)]; rfl
   ·rw [if_neg q, if_neg (fun z => q (isLoc_iff.mp z))]
    rw [lookup_reverse _ (by rw [hzk]; exact hnd)]
    cases e : (ns.zip vs).lookup p.1 with
    | none => rw [lookup_zip_none d2 e]; rfl
    | some v => obtain ⟨u, e1, e2⟩ := lookup_zip d2 e; rw [e1]; exact ⟨u, rfl, e2⟩)
 have bt := hb C' (s.heap.objs.size + 1) ⟨rfl, rfl, rfl, rfl, rfl, rfl⟩ (fun c hc => hp_none X (Nat.le_of_succ_le hc))
 have lco : LocOk C.W Z ((ns.zip vs).filter fun p => isLoc fd.scope p.1) (bindL (Env.kindOf env) (ns.zip us') fun _ => none) := fun z v e => by
  obtain ⟨e1, e2⟩ := lookup_filter e
  obtain ⟨u, e3, e4⟩ := lookup_zip d2 e2
  refine ⟨u, ?_, e4⟩
  rw [bindL_eq]
  have q : Env.kindOf env z = some .local := isLoc_iff.mp e1
  rw [if_pos q, lookup_reverse _ (by rw [hzk]; exact hnd), e3]; rfl
 refine bt Z _ _ _ [] ok' ⟨_, mu2, _, X2, lco⟩ rfl ?_ ?_
 ·intro Z' fl fv lc' hp' s' z' r' R1 sm kk
  obtain ⟨m', mu', fo', X1, _⟩ := R1
  obtain ⟨o, fo1, _, X2⟩ := leave_rel (C := C) (C' := C') rfl rfl hab X1
  obtain ⟨hp2, hle, kk⟩ := kk
  refine nn Z' (retV fl) _ lc hp2 s' z' ?_ (Rel.weaken ⟨m, mu', fo1, X2, l.mono z'⟩ (fun _ _ e => e) hle) ((Same.mk' s h₁ _).trans sm) kk
  clear kk
  cases fl with
  | ret v => obtain ⟨u, rfl, du⟩ := r'; exact du
  | next => cases r'; exact rfl
  | brk => cases r'; exact rfl
  | cont => cases r'; exact rfl
 ·intro Z' e hp' s' z' ex sm xx
  refine leaving_exc (C := C') (L := s.heap.objs.size) ok' rfl rfl rfl ex fun m' h' ea => ?_
  obtain ⟨mu', fo', X1, oe, ws, a0, T, oT, ts, h1, h2, h3, h4, h5, h6, t1, t2, t3, t4, t5, t6, t7⟩ := ea
  obtain ⟨o, fo1, hfo, X2⟩ := leave_rel (C := C) (C' := C') rfl rfl hab X1
  subst hfo
  have mem : ∀ p, p ∈ Z' ++ (mu'.map (·.2) ++ fo1) → p ∈ Z' ++ (mu'.map (·.2) ++ (C.L, o) :: fo1) := fun p hp => by
   rcases List.mem_append.mp hp with hp | hp
   ·exact List.mem_append_left _ hp
   ·rcases List.mem_append.mp hp with hp | hp
    ·exact List.mem_append_right _ (List.mem_append_left _ hp)
    ·exact List.mem_append_right _ (List.mem_append_right _ (.tail _ hp))
  exact y Z' e hp' _ z' ⟨m, mu', fo1, X2, oe, ws, a0, h1, h2, h3, h4, h5, fun p hp => h6 p (mem p hp), .inr ⟨T, oT, ts, .none, t1, t2, fun p hp => t3 p (mem p hp), t4, t5, t6, t7, .inl rfl⟩⟩ ((Same.mk' s h₁ _).trans (sm.trans (Same.mk' s' h' _))) xx
end
end Mine
end
section
open PySem PySem.W PyProof.Rows PySem.Calls
namespace Mine
theorem FnLoc.of {fd : FuncData} {ns : List Str} (h1 : (fd.scope.names.all fun x => x.2 != .cell) = true) (h2 : (ns.all fun y => fd.scope.names.lookup y == some .local) = true) : FnLoc fd ns :=
 ⟨fun x hx => by simpa using List.all_eq_true.mp h1 x hx, fun y hy => by simpa using List.all_eq_true.mp h2 y hy⟩
theorem fn_36 (P : Params) : FnOk P 36 (fd "__init__" "Position.__init__" (mj 10 0) 3 N N N (s "grammarmill.source" 194) (r 35) N 0 none) (fB (mj 10 0)) [S "self", S "offset", S "line", S "column"] 4 [] :=
 ⟨⟨T "function", none, #[], by kernel_rfl⟩, rfl, by kernel_rfl, rfl, rfl, rfl, by kernel_rfl, by kernel_rfl, by kernel_rfl, bind4 (fun a b c d _ _ => BindsTo.of_eq (by kernel_rfl)), rfl, by decide⟩
theorem fl_36 : FnLoc (fd "__init__" "Position.__init__" (mj 10 0) 3 N N N (s "grammarmill.source" 194) (r 35) N 0 none) [S "self", S "offset", S "line", S "column"] := FnLoc.of (by kernel_rfl) (by kernel_rfl)
theorem fn_57 (P : Params) : FnOk P 57 (fd "position_of" "position_of" (mi 11) 3 N N N (s "grammarmill.source" 194) (r 56) N 0 none) (fB (mi 11)) [S "text", S "offset"] 2 [] :=
 ⟨⟨T "function", none, #[], by kernel_rfl⟩, rfl, by kernel_rfl, rfl, rfl, rfl, by kernel_rfl, by kernel_rfl, by kernel_rfl, bind2 (fun a b _ _ => BindsTo.of_eq (by kernel_rfl)), rfl, by decide⟩
theorem fl_57 : FnLoc (fd "position_of" "position_of" (mi 11) 3 N N N (s "grammarmill.source" 194) (r 56) N 0 none) [S "text", S "offset"] := FnLoc.of (by kernel_rfl) (by kernel_rfl)
theorem fl_72 : FnLoc (fd "__init__" "ToolError.__init__" (mj 12 0) 3 (r 65) N N (s "grammarmill.source" 194) (r 71) N 0 none) [S "self", S "what", S "at"] := FnLoc.of (by kernel_rfl) (by kernel_rfl)
theorem fn_72 (P : Params) : FnOk P 72 (fd "__init__" "ToolError.__init__" (mj 12 0) 3 (r 65) N N (s "grammarmill.source" 194) (r 71) N 0 none) (fB (mj 12 0)) [S "self", S "what", S "at"] 3 [] :=
 ⟨⟨T "function", none, #[], by kernel_rfl⟩, rfl, by kernel_rfl, rfl, rfl, rfl, by kernel_rfl, by kernel_rfl, by kernel_rfl, bind3 (fun a b c _ X => kp_binds X (by intro _; kernel_rfl)), rfl, by decide⟩
theorem fl_112 : FnLoc (fd "__init__" "Cursor.__init__" (mj 14 0) 3 (r 105) N N (s "grammarmill.source" 194) (r 111) N 0 none) [S "self", S "text", S "at"] := FnLoc.of (by kernel_rfl) (by kernel_rfl)
theorem fn_112 (P : Params) : FnOk P 112 (fd "__init__" "Cursor.__init__" (mj 14 0) 3 (r 105) N N (s "grammarmill.source" 194) (r 111) N 0 none) (fB (mj 14 0)) [S "self", S "text", S "at"] 3 [] :=
 ⟨⟨T "function", none, #[], by kernel_rfl⟩, rfl, by kernel_rfl, rfl, rfl, rfl, by kernel_rfl, by kernel_rfl, by kernel_rfl, bind3 (fun a b c _ X => kp_binds X (by intro _; kernel_rfl)), rfl, by decide⟩
theorem fn_119 (P : Params) : FnOk P 119 (fd "is_done" "Cursor.is_done" (mj 14 1) 3 N N N (s "grammarmill.source" 194) (r 118) N 0 none) (fB (mj 14 1)) [S "self"] 1 [] :=
 ⟨⟨T "function", none, #[], by kernel_rfl⟩, rfl, by kernel_rfl, rfl, rfl, rfl, by kernel_rfl, by kernel_rfl, by kernel_rfl, bind1 (fun a _ _ => BindsTo.of_eq (by kernel_rfl)), rfl, by decide⟩
theorem fl_119 : FnLoc (fd "is_done" "Cursor.is_done" (mj 14 1) 3 N N N (s "grammarmill.source" 194) (r 118) N 0 none) [S "self"] := FnLoc.of (by kernel_rfl) (by kernel_rfl)
theorem fn_127d (P : Params) : FnOk P 127 (fd "peek" "Cursor.peek" (mj 14 2) 3 (r 120) N N (s "grammarmill.source" 194) (r 126) N 0 none) (fB (mj 14 2)) [S "self", S "ahead"] 1 [j 0 371] :=
 ⟨⟨T "function", none, #[], by kernel_rfl⟩, rfl, by kernel_rfl, rfl, rfl, rfl, by kernel_rfl, by kernel_rfl, by kernel_rfl, bind1 (fun a _ X => kp_binds X (by intro _; kernel_rfl)), rfl, by decide⟩
theorem fl_127 : FnLoc (fd "peek" "Cursor.peek" (mj 14 2) 3 (r 120) N N (s "grammarmill.source" 194) (r 126) N 0 none) [S "self", S "ahead"] := FnLoc.of (by kernel_rfl) (by kernel_rfl)
theorem fn_127 (P : Params) : FnOk P 127 (fd "peek" "Cursor.peek" (mj 14 2) 3 (r 120) N N (s "grammarmill.source" 194) (r 126) N 0 none) (fB (mj 14 2)) [S "self", S "ahead"] 2 [] :=
 ⟨⟨T "function", none, #[], by kernel_rfl⟩, rfl, by kernel_rfl, rfl, rfl, rfl, by kernel_rfl, by kernel_rfl, by kernel_rfl, bind2 (fun a b _ X => kp_binds X (by intro _; kernel_rfl)), rfl, by decide⟩
theorem fn_134 (P : Params) : FnOk P 134 (fd "starts" "Cursor.starts" (mj 14 3) 3 N N N (s "grammarmill.source" 194) (r 133) N 0 none) (fB (mj 14 3)) [S "self", S "word"] 2 [] :=
 ⟨⟨T "function", none, #[], by kernel_rfl⟩, rfl, by kernel_rfl, rfl, rfl, rfl, by kernel_rfl, by kernel_rfl, by kernel_rfl, bind2 (fun a b _ _ => BindsTo.of_eq (by kernel_rfl)), rfl, by decide⟩
theorem fl_134 : FnLoc (fd "starts" "Cursor.starts" (mj 14 3) 3 N N N (s "grammarmill.source" 194) (r 133) N 0 none) [S "self", S "word"] := FnLoc.of (by kernel_rfl) (by kernel_rfl)
theorem fn_141 (P : Params) : FnOk P 141 (fd "take" "Cursor.take" (mj 14 4) 3 N N N (s "grammarmill.source" 194) (r 140) N 0 none) (fB (mj 14 4)) [S "self"] 1 [] :=
 ⟨⟨T "function", none, #[], by kernel_rfl⟩, rfl, by kernel_rfl, rfl, rfl, rfl, by kernel_rfl, by kernel_rfl, by kernel_rfl, bind1 (fun a _ _ => BindsTo.of_eq (by kernel_rfl)), rfl, by decide⟩
theorem fl_141 : FnLoc (fd "take" "Cursor.take" (mj 14 4) 3 N N N (s "grammarmill.source" 194) (r 140) N 0 none) [S "self"] := FnLoc.of (by kernel_rfl) (by kernel_rfl)
theorem fn_148 (P : Params) : FnOk P 148 (fd "skip" "Cursor.skip" (mj 14 5) 3 N N N (s "grammarmill.source" 194) (r 147) N 0 none) (fB (mj 14 5)) [S "self", S "word"] 2 [] :=
 ⟨⟨T "function", none, #[], by kernel_rfl⟩, rfl, by kernel_rfl, rfl, rfl, rfl, by kernel_rfl, by kernel_rfl, by kernel_rfl, bind2 (fun a b _ _ => BindsTo.of_eq (by kernel_rfl)), rfl, by decide⟩
theorem fl_148 : FnLoc (fd "skip" "Cursor.skip" (mj 14 5) 3 N N N (s "grammarmill.source" 194) (r 147) N 0 none) [S "self", S "word"] := FnLoc.of (by kernel_rfl) (by kernel_rfl)
theorem fn_155 (P : Params) : FnOk P 155 (fd "take_while" "Cursor.take_while" (mj 14 6) 3 N N N (s "grammarmill.source" 194) (r 154) N 0 none) (fB (mj 14 6)) [S "self", S "signs"] 2 [] :=
 ⟨⟨T "function", none, #[], by kernel_rfl⟩, rfl, by kernel_rfl, rfl, rfl, rfl, by kernel_rfl, by kernel_rfl, by kernel_rfl, bind2 (fun a b _ _ => BindsTo.of_eq (by kernel_rfl)), rfl, by decide⟩
theorem fl_155 : FnLoc (fd "take_while" "Cursor.take_while" (mj 14 6) 3 N N N (s "grammarmill.source" 194) (r 154) N 0 none) [S "self", S "signs"] := FnLoc.of (by kernel_rfl) (by kernel_rfl)
theorem fn_177 (P : Params) : FnOk P 177 (fd "name" "Cursor.name" (mj 14 9) 3 N N N (s "grammarmill.source" 194) (r 176) N 0 none) (fB (mj 14 9)) [S "self"] 1 [] :=
 ⟨⟨T "function", none, #[], by kernel_rfl⟩, rfl, by kernel_rfl, rfl, rfl, rfl, by kernel_rfl, by kernel_rfl, by kernel_rfl, bind1 (fun a _ _ => BindsTo.of_eq (by kernel_rfl)), rfl, by decide⟩
theorem fl_177 : FnLoc (fd "name" "Cursor.name" (mj 14 9) 3 N N N (s "grammarmill.source" 194) (r 176) N 0 none) [S "self"] := FnLoc.of (by kernel_rfl) (by kernel_rfl)
theorem fn_205 (P : Params) : FnOk P 205 (fd "coded" "Cursor.coded" (mj 14 13) 3 N N N (s "grammarmill.source" 194) (r 204) N 0 none) (fB (mj 14 13)) [S "self", S "signs", S "most", S "base"] 4 [] :=
 ⟨⟨T "function", none, #[], by kernel_rfl⟩, rfl, by kernel_rfl, rfl, rfl, rfl, by kernel_rfl, by kernel_rfl, by kernel_rfl, bind4 (fun a b c d _ _ => BindsTo.of_eq (by kernel_rfl)), rfl, by decide⟩
theorem fl_205 : FnLoc (fd "coded" "Cursor.coded" (mj 14 13) 3 N N N (s "grammarmill.source" 194) (r 204) N 0 none) [S "self", S "signs", S "most", S "base"] := FnLoc.of (by kernel_rfl) (by kernel_rfl)
theorem fn_212 (P : Params) : FnOk P 212 (fd "escape" "Cursor.escape" (mj 14 14) 3 N N N (s "grammarmill.source" 194) (r 211) N 0 none) (fB (mj 14 14)) [S "self"] 1 [] :=
 ⟨⟨T "function", none, #[], by kernel_rfl⟩, rfl, by kernel_rfl, rfl, rfl, rfl, by kernel_rfl, by kernel_rfl, by kernel_rfl, bind1 (fun a _ _ => BindsTo.of_eq (by kernel_rfl)), rfl, by decide⟩
theorem fl_212 : FnLoc (fd "escape" "Cursor.escape" (mj 14 14) 3 N N N (s "grammarmill.source" 194) (r 211) N 0 none) [S "self"] := FnLoc.of (by kernel_rfl) (by kernel_rfl)
theorem fn_233 (P : Params) : FnOk P 233 (fd "hex_escape" "hex_escape" (mi 15) 3 N N N (s "grammarmill.source" 194) (r 232) N 0 none) (fB (mi 15)) [S "code"] 1 [] :=
 ⟨⟨T "function", none, #[], by kernel_rfl⟩, rfl, by kernel_rfl, rfl, rfl, rfl, by kernel_rfl, by kernel_rfl, by kernel_rfl, bind1 (fun a _ _ => BindsTo.of_eq (by kernel_rfl)), rfl, by decide⟩
theorem fl_233 : FnLoc (fd "hex_escape" "hex_escape" (mi 15) 3 N N N (s "grammarmill.source" 194) (r 232) N 0 none) [S "code"] := FnLoc.of (by kernel_rfl) (by kernel_rfl)
theorem fn_240 (P : Params) : FnOk P 240 (fd "escaped_sign" "escaped_sign" (mi 16) 3 N N N (s "grammarmill.source" 194) (r 239) N 0 none) (fB (mi 16)) [S "sign", S "marks"] 2 [] :=
 ⟨⟨T "function", none, #[], by kernel_rfl⟩, rfl, by kernel_rfl, rfl, rfl, rfl, by kernel_rfl, by kernel_rfl, by kernel_rfl, bind2 (fun a b _ _ => BindsTo.of_eq (by kernel_rfl)), rfl, by decide⟩
theorem fl_240 : FnLoc (fd "escaped_sign" "escaped_sign" (mi 16) 3 N N N (s "grammarmill.source" 194) (r 239) N 0 none) [S "sign", S "marks"] := FnLoc.of (by kernel_rfl) (by kernel_rfl)
theorem fn_290 (P : Params) : FnOk P 290 (fd "__init__" "CharSet.__init__" (mj 22 0) 3 N N N (s "grammarmill.charset" 519) (r 289) N 0 none) (fB (mj 22 0)) [S "self", S "spans"] 2 [] :=
 ⟨⟨T "function", none, #[], by kernel_rfl⟩, rfl, by kernel_rfl, rfl, rfl, rfl, by kernel_rfl, by kernel_rfl, by kernel_rfl, bind2 (fun a b _ _ => BindsTo.of_eq (by kernel_rfl)), rfl, by decide⟩
theorem fl_290 : FnLoc (fd "__init__" "CharSet.__init__" (mj 22 0) 3 N N N (s "grammarmill.charset" 519) (r 289) N 0 none) [S "self", S "spans"] := FnLoc.of (by kernel_rfl) (by kernel_rfl)
theorem fn_317 (P : Params) : FnOk P 317 (fd "dot" "CharSet.dot" (mj 22 3) 3 N N N (s "grammarmill.charset" 519) (r 316) N 0 (some 320)) (fB (mj 22 3)) [] 0 [] :=
 ⟨⟨T "function", none, #[], by kernel_rfl⟩, rfl, by kernel_rfl, rfl, rfl, rfl, by kernel_rfl, by kernel_rfl, by kernel_rfl, bind0 (fun _ _ => BindsTo.of_eq (by kernel_rfl)), rfl, by decide⟩
theorem fl_317 : FnLoc (fd "dot" "CharSet.dot" (mj 22 3) 3 N N N (s "grammarmill.charset" 519) (r 316) N 0 (some 320)) [] := FnLoc.of (by kernel_rfl) (by kernel_rfl)
theorem fn_335 (P : Params) : FnOk P 335 (fd "span" "CharSet.span" (mj 22 5) 3 N N N (s "grammarmill.charset" 519) (r 334) N 0 (some 338)) (fB (mj 22 5)) [S "low", S "high"] 2 [] :=
 ⟨⟨T "function", none, #[], by kernel_rfl⟩, rfl, by kernel_rfl, rfl, rfl, rfl, by kernel_rfl, by kernel_rfl, by kernel_rfl, bind2 (fun a b _ _ => BindsTo.of_eq (by kernel_rfl)), rfl, by decide⟩
theorem fl_335 : FnLoc (fd "span" "CharSet.span" (mj 22 5) 3 N N N (s "grammarmill.charset" 519) (r 334) N 0 (some 338)) [S "low", S "high"] := FnLoc.of (by kernel_rfl) (by kernel_rfl)
theorem fn_345 (P : Params) : FnOk P 345 (fd "made" "CharSet.made" (mj 22 6) 3 N N N (s "grammarmill.charset" 519) (r 344) N 0 (some 348)) (fB (mj 22 6)) [S "pairs"] 1 [] :=
 ⟨⟨T "function", none, #[], by kernel_rfl⟩, rfl, by kernel_rfl, rfl, rfl, rfl, by kernel_rfl, by kernel_rfl, by kernel_rfl, bind1 (fun a _ _ => BindsTo.of_eq (by kernel_rfl)), rfl, by decide⟩
theorem fl_345 : FnLoc (fd "made" "CharSet.made" (mj 22 6) 3 N N N (s "grammarmill.charset" 519) (r 344) N 0 (some 348)) [S "pairs"] := FnLoc.of (by kernel_rfl) (by kernel_rfl)
theorem fn_362 (P : Params) : FnOk P 362 (fd "size" "CharSet.size" (mj 22 8) 3 N N N (s "grammarmill.charset" 519) (r 361) N 0 none) (fB (mj 22 8)) [S "self"] 1 [] :=
 ⟨⟨T "function", none, #[], by kernel_rfl⟩, rfl, by kernel_rfl, rfl, rfl, rfl, by kernel_rfl, by kernel_rfl, by kernel_rfl, bind1 (fun a _ _ => BindsTo.of_eq (by kernel_rfl)), rfl, by decide⟩
theorem fl_362 : FnLoc (fd "size" "CharSet.size" (mj 22 8) 3 N N N (s "grammarmill.charset" 519) (r 361) N 0 none) [S "self"] := FnLoc.of (by kernel_rfl) (by kernel_rfl)
theorem fn_376 (P : Params) : FnOk P 376 (fd "least" "CharSet.least" (mj 22 10) 3 N N N (s "grammarmill.charset" 519) (r 375) N 0 none) (fB (mj 22 10)) [S "self"] 1 [] :=
 ⟨⟨T "function", none, #[], by kernel_rfl⟩, rfl, by kernel_rfl, rfl, rfl, rfl, by kernel_rfl, by kernel_rfl, by kernel_rfl, bind1 (fun a _ _ => BindsTo.of_eq (by kernel_rfl)), rfl, by decide⟩
theorem fl_376 : FnLoc (fd "least" "CharSet.least" (mj 22 10) 3 N N N (s "grammarmill.charset" 519) (r 375) N 0 none) [S "self"] := FnLoc.of (by kernel_rfl) (by kernel_rfl)
theorem fn_383 (P : Params) : FnOk P 383 (fd "is_empty" "CharSet.is_empty" (mj 22 11) 3 N N N (s "grammarmill.charset" 519) (r 382) N 0 none) (fB (mj 22 11)) [S "self"] 1 [] :=
 ⟨⟨T "function", none, #[], by kernel_rfl⟩, rfl, by kernel_rfl, rfl, rfl, rfl, by kernel_rfl, by kernel_rfl, by kernel_rfl, bind1 (fun a _ _ => BindsTo.of_eq (by kernel_rfl)), rfl, by decide⟩
theorem fl_383 : FnLoc (fd "is_empty" "CharSet.is_empty" (mj 22 11) 3 N N N (s "grammarmill.charset" 519) (r 382) N 0 none) [S "self"] := FnLoc.of (by kernel_rfl) (by kernel_rfl)
theorem fn_404 (P : Params) : FnOk P 404 (fd "complement" "CharSet.complement" (mj 22 14) 3 N N N (s "grammarmill.charset" 519) (r 403) N 0 none) (fB (mj 22 14)) [S "self"] 1 [] :=
 ⟨⟨T "function", none, #[], by kernel_rfl⟩, rfl, by kernel_rfl, rfl, rfl, rfl, by kernel_rfl, by kernel_rfl, by kernel_rfl, bind1 (fun a _ _ => BindsTo.of_eq (by kernel_rfl)), rfl, by decide⟩
theorem fl_404 : FnLoc (fd "complement" "CharSet.complement" (mj 22 14) 3 N N N (s "grammarmill.charset" 519) (r 403) N 0 none) [S "self"] := FnLoc.of (by kernel_rfl) (by kernel_rfl)
theorem fn_418 (P : Params) : FnOk P 418 (fd "same" "CharSet.same" (mj 22 16) 3 N N N (s "grammarmill.charset" 519) (r 417) N 0 none) (fB (mj 22 16)) [S "self", S "other"] 2 [] :=
 ⟨⟨T "function", none, #[], by kernel_rfl⟩, rfl, by kernel_rfl, rfl, rfl, rfl, by kernel_rfl, by kernel_rfl, by kernel_rfl, bind2 (fun a b _ _ => BindsTo.of_eq (by kernel_rfl)), rfl, by decide⟩
theorem fl_418 : FnLoc (fd "same" "CharSet.same" (mj 22 16) 3 N N N (s "grammarmill.charset" 519) (r 417) N 0 none) [S "self", S "other"] := FnLoc.of (by kernel_rfl) (by kernel_rfl)
theorem fn_439 (P : Params) : FnOk P 439 (fd "key" "CharSet.key" (mj 22 19) 3 N N N (s "grammarmill.charset" 519) (r 438) N 0 none) (fB (mj 22 19)) [S "self"] 1 [] :=
 ⟨⟨T "function", none, #[], by kernel_rfl⟩, rfl, by kernel_rfl, rfl, rfl, rfl, by kernel_rfl, by kernel_rfl, by kernel_rfl, bind1 (fun a _ _ => BindsTo.of_eq (by kernel_rfl)), rfl, by decide⟩
theorem fl_439 : FnLoc (fd "key" "CharSet.key" (mj 22 19) 3 N N N (s "grammarmill.charset" 519) (r 438) N 0 none) [S "self"] := FnLoc.of (by kernel_rfl) (by kernel_rfl)
theorem fn_453 (P : Params) : FnOk P 453 (fd "show_code" "show_code" (mi 23) 3 N N N (s "grammarmill.charset" 519) (r 452) N 0 none) (fB (mi 23)) [S "code"] 1 [] :=
 ⟨⟨T "function", none, #[], by kernel_rfl⟩, rfl, by kernel_rfl, rfl, rfl, rfl, by kernel_rfl, by kernel_rfl, by kernel_rfl, bind1 (fun a _ _ => BindsTo.of_eq (by kernel_rfl)), rfl, by decide⟩
theorem fl_453 : FnLoc (fd "show_code" "show_code" (mi 23) 3 N N N (s "grammarmill.charset" 519) (r 452) N 0 none) [S "code"] := FnLoc.of (by kernel_rfl) (by kernel_rfl)
theorem fn_460 (P : Params) : FnOk P 460 (fd "told" "told" (mi 24) 3 N N N (s "grammarmill.charset" 519) (r 459) N 0 none) (fB (mi 24)) [S "charset"] 1 [] :=
 ⟨⟨T "function", none, #[], by kernel_rfl⟩, rfl, by kernel_rfl, rfl, rfl, rfl, by kernel_rfl, by kernel_rfl, by kernel_rfl, bind1 (fun a _ _ => BindsTo.of_eq (by kernel_rfl)), rfl, by decide⟩
theorem fl_460 : FnLoc (fd "told" "told" (mi 24) 3 N N N (s "grammarmill.charset" 519) (r 459) N 0 none) [S "charset"] := FnLoc.of (by kernel_rfl) (by kernel_rfl)
theorem fn_467 (P : Params) : FnOk P 467 (fd "named_class" "named_class" (mi 25) 3 N N N (s "grammarmill.charset" 519) (r 466) N 0 none) (fB (mi 25)) [S "name"] 1 [] :=
 ⟨⟨T "function", none, #[], by kernel_rfl⟩, rfl, by kernel_rfl, rfl, rfl, rfl, by kernel_rfl, by kernel_rfl, by kernel_rfl, bind1 (fun a _ _ => BindsTo.of_eq (by kernel_rfl)), rfl, by decide⟩
theorem fl_467 : FnLoc (fd "named_class" "named_class" (mi 25) 3 N N N (s "grammarmill.charset" 519) (r 466) N 0 none) [S "name"] := FnLoc.of (by kernel_rfl) (by kernel_rfl)
theorem fn_488 (P : Params) : FnOk P 488 (fd "told" "Node.told" (mj 32 2) 3 N N N (s "grammarmill.regex" 882) (r 487) N 0 none) (fB (mj 32 2)) [S "self"] 1 [] :=
 ⟨⟨T "function", none, #[], by kernel_rfl⟩, rfl, by kernel_rfl, rfl, rfl, rfl, by kernel_rfl, by kernel_rfl, by kernel_rfl, bind1 (fun a _ _ => BindsTo.of_eq (by kernel_rfl)), rfl, by decide⟩
theorem fl_488 : FnLoc (fd "told" "Node.told" (mj 32 2) 3 N N N (s "grammarmill.regex" 882) (r 487) N 0 none) [S "self"] := FnLoc.of (by kernel_rfl) (by kernel_rfl)
theorem fn_533 (P : Params) : FnOk P 533 (fd "__init__" "Chars.__init__" (mj 35 1) 3 N N N (s "grammarmill.regex" 882) (r 532) N 0 none) (fB (mj 35 1)) [S "self", S "charset"] 2 [] :=
 ⟨⟨T "function", none, #[], by kernel_rfl⟩, rfl, by kernel_rfl, rfl, rfl, rfl, by kernel_rfl, by kernel_rfl, by kernel_rfl, bind2 (fun a b _ _ => BindsTo.of_eq (by kernel_rfl)), rfl, by decide⟩
theorem fl_533 : FnLoc (fd "__init__" "Chars.__init__" (mj 35 1) 3 N N N (s "grammarmill.regex" 882) (r 532) N 0 none) [S "self", S "charset"] := FnLoc.of (by kernel_rfl) (by kernel_rfl)
theorem fn_540 (P : Params) : FnOk P 540 (fd "told" "Chars.told" (mj 35 2) 3 N N N (s "grammarmill.regex" 882) (r 539) N 0 none) (fB (mj 35 2)) [S "self"] 1 [] :=
 ⟨⟨T "function", none, #[], by kernel_rfl⟩, rfl, by kernel_rfl, rfl, rfl, rfl, by kernel_rfl, by kernel_rfl, by kernel_rfl, bind1 (fun a _ _ => BindsTo.of_eq (by kernel_rfl)), rfl, by decide⟩
theorem fl_540 : FnLoc (fd "told" "Chars.told" (mj 35 2) 3 N N N (s "grammarmill.regex" 882) (r 539) N 0 none) [S "self"] := FnLoc.of (by kernel_rfl) (by kernel_rfl)
theorem fn_711 (P : Params) : FnOk P 711 (fd "cat_all" "cat_all" (mi 45) 3 N N N (s "grammarmill.regex" 882) (r 710) N 0 none) (fB (mi 45)) [S "nodes"] 1 [] :=
 ⟨⟨T "function", none, #[], by kernel_rfl⟩, rfl, by kernel_rfl, rfl, rfl, rfl, by kernel_rfl, by kernel_rfl, by kernel_rfl, bind1 (fun a _ _ => BindsTo.of_eq (by kernel_rfl)), rfl, by decide⟩
theorem fl_711 : FnLoc (fd "cat_all" "cat_all" (mi 45) 3 N N N (s "grammarmill.regex" 882) (r 710) N 0 none) [S "nodes"] := FnLoc.of (by kernel_rfl) (by kernel_rfl)
theorem fn_718 (P : Params) : FnOk P 718 (fd "chars_node" "chars_node" (mi 46) 3 N N N (s "grammarmill.regex" 882) (r 717) N 0 none) (fB (mi 46)) [S "charset"] 1 [] :=
 ⟨⟨T "function", none, #[], by kernel_rfl⟩, rfl, by kernel_rfl, rfl, rfl, rfl, by kernel_rfl, by kernel_rfl, by kernel_rfl, bind1 (fun a _ _ => BindsTo.of_eq (by kernel_rfl)), rfl, by decide⟩
theorem fl_718 : FnLoc (fd "chars_node" "chars_node" (mi 46) 3 N N N (s "grammarmill.regex" 882) (r 717) N 0 none) [S "charset"] := FnLoc.of (by kernel_rfl) (by kernel_rfl)
theorem fn_739 (P : Params) : FnOk P 739 (fd "__init__" "RegexReader.__init__" (mj 48 0) 3 N N N (s "grammarmill.regex" 882) (r 738) N 0 none) (fB (mj 48 0)) [S "self", S "text", S "at", S "definitions", S "is_pattern"] 5 [] :=
 ⟨⟨T "function", none, #[], by kernel_rfl⟩, rfl, by kernel_rfl, rfl, rfl, rfl, by kernel_rfl, by kernel_rfl, by kernel_rfl, bind5 (fun a b c d e _ _ => BindsTo.of_eq (by kernel_rfl)), rfl, by decide⟩
theorem fl_739 : FnLoc (fd "__init__" "RegexReader.__init__" (mj 48 0) 3 N N N (s "grammarmill.regex" 882) (r 738) N 0 none) [S "self", S "text", S "at", S "definitions", S "is_pattern"] := FnLoc.of (by kernel_rfl) (by kernel_rfl)
theorem fn_746 (P : Params) : FnOk P 746 (fd "failed" "RegexReader.failed" (mj 48 1) 3 N N N (s "grammarmill.regex" 882) (r 745) N 0 none) (fB (mj 48 1)) [S "self", S "what", S "at"] 3 [] :=
 ⟨⟨T "function", none, #[], by kernel_rfl⟩, rfl, by kernel_rfl, rfl, rfl, rfl, by kernel_rfl, by kernel_rfl, by kernel_rfl, bind3 (fun a b c _ _ => BindsTo.of_eq (by kernel_rfl)), rfl, by decide⟩
theorem fl_746 : FnLoc (fd "failed" "RegexReader.failed" (mj 48 1) 3 N N N (s "grammarmill.regex" 882) (r 745) N 0 none) [S "self", S "what", S "at"] := FnLoc.of (by kernel_rfl) (by kernel_rfl)
theorem fn_760 (P : Params) : FnOk P 760 (fd "is_stop" "RegexReader.is_stop" (mj 48 3) 3 N N N (s "grammarmill.regex" 882) (r 759) N 0 none) (fB (mj 48 3)) [S "self"] 1 [] :=
 ⟨⟨T "function", none, #[], by kernel_rfl⟩, rfl, by kernel_rfl, rfl, rfl, rfl, by kernel_rfl, by kernel_rfl, by kernel_rfl, bind1 (fun a _ _ => BindsTo.of_eq (by kernel_rfl)), rfl, by decide⟩
theorem fl_760 : FnLoc (fd "is_stop" "RegexReader.is_stop" (mj 48 3) 3 N N N (s "grammarmill.regex" 882) (r 759) N 0 none) [S "self"] := FnLoc.of (by kernel_rfl) (by kernel_rfl)
theorem fn_767 (P : Params) : FnOk P 767 (fd "choice" "RegexReader.choice" (mj 48 4) 3 N N N (s "grammarmill.regex" 882) (r 766) N 0 none) (fB (mj 48 4)) [S "self"] 1 [] :=
 ⟨⟨T "function", none, #[], by kernel_rfl⟩, rfl, by kernel_rfl, rfl, rfl, rfl, by kernel_rfl, by kernel_rfl, by kernel_rfl, bind1 (fun a _ _ => BindsTo.of_eq (by kernel_rfl)), rfl, by decide⟩
theorem fl_767 : FnLoc (fd "choice" "RegexReader.choice" (mj 48 4) 3 N N N (s "grammarmill.regex" 882) (r 766) N 0 none) [S "self"] := FnLoc.of (by kernel_rfl) (by kernel_rfl)
theorem fn_774 (P : Params) : FnOk P 774 (fd "branch" "RegexReader.branch" (mj 48 5) 3 N N N (s "grammarmill.regex" 882) (r 773) N 0 none) (fB (mj 48 5)) [S "self"] 1 [] :=
 ⟨⟨T "function", none, #[], by kernel_rfl⟩, rfl, by kernel_rfl, rfl, rfl, rfl, by kernel_rfl, by kernel_rfl, by kernel_rfl, bind1 (fun a _ _ => BindsTo.of_eq (by kernel_rfl)), rfl, by decide⟩
theorem fl_774 : FnLoc (fd "branch" "RegexReader.branch" (mj 48 5) 3 N N N (s "grammarmill.regex" 882) (r 773) N 0 none) [S "self"] := FnLoc.of (by kernel_rfl) (by kernel_rfl)
theorem fn_781 (P : Params) : FnOk P 781 (fd "looped" "RegexReader.looped" (mj 48 6) 3 N N N (s "grammarmill.regex" 882) (r 780) N 0 none) (fB (mj 48 6)) [S "self", S "part"] 2 [] :=
 ⟨⟨T "function", none, #[], by kernel_rfl⟩, rfl, by kernel_rfl, rfl, rfl, rfl, by kernel_rfl, by kernel_rfl, by kernel_rfl, bind2 (fun a b _ _ => BindsTo.of_eq (by kernel_rfl)), rfl, by decide⟩
theorem fl_781 : FnLoc (fd "looped" "RegexReader.looped" (mj 48 6) 3 N N N (s "grammarmill.regex" 882) (r 780) N 0 none) [S "self", S "part"] := FnLoc.of (by kernel_rfl) (by kernel_rfl)
theorem fn_802 (P : Params) : FnOk P 802 (fd "single" "RegexReader.single" (mj 48 9) 3 N N N (s "grammarmill.regex" 882) (r 801) N 0 none) (fB (mj 48 9)) [S "self"] 1 [] :=
 ⟨⟨T "function", none, #[], by kernel_rfl⟩, rfl, by kernel_rfl, rfl, rfl, rfl, by kernel_rfl, by kernel_rfl, by kernel_rfl, bind1 (fun a _ _ => BindsTo.of_eq (by kernel_rfl)), rfl, by decide⟩
theorem fl_802 : FnLoc (fd "single" "RegexReader.single" (mj 48 9) 3 N N N (s "grammarmill.regex" 882) (r 801) N 0 none) [S "self"] := FnLoc.of (by kernel_rfl) (by kernel_rfl)
theorem fn_809 (P : Params) : FnOk P 809 (fd "code_of" "RegexReader.code_of" (mj 48 10) 3 N N N (s "grammarmill.regex" 882) (r 808) N 0 none) (fB (mj 48 10)) [S "self", S "sign", S "begun"] 3 [] :=
 ⟨⟨T "function", none, #[], by kernel_rfl⟩, rfl, by kernel_rfl, rfl, rfl, rfl, by kernel_rfl, by kernel_rfl, by kernel_rfl, bind3 (fun a b c _ _ => BindsTo.of_eq (by kernel_rfl)), rfl, by decide⟩
theorem fl_809 : FnLoc (fd "code_of" "RegexReader.code_of" (mj 48 10) 3 N N N (s "grammarmill.regex" 882) (r 808) N 0 none) [S "self", S "sign", S "begun"] := FnLoc.of (by kernel_rfl) (by kernel_rfl)
theorem fn_828 (P : Params) : FnOk P 828 (fd "sign_class" "RegexReader.sign_class" (mj 48 13) 3 N N N (s "grammarmill.regex" 882) (r 827) N 0 none) (fB (mj 48 13)) [S "self", S "begun"] 2 [] :=
 ⟨⟨T "function", none, #[], by kernel_rfl⟩, rfl, by kernel_rfl, rfl, rfl, rfl, by kernel_rfl, by kernel_rfl, by kernel_rfl, bind2 (fun a b _ _ => BindsTo.of_eq (by kernel_rfl)), rfl, by decide⟩
theorem fl_828 : FnLoc (fd "sign_class" "RegexReader.sign_class" (mj 48 13) 3 N N N (s "grammarmill.regex" 882) (r 827) N 0 none) [S "self", S "begun"] := FnLoc.of (by kernel_rfl) (by kernel_rfl)
theorem fn_835 (P : Params) : FnOk P 835 (fd "named" "RegexReader.named" (mj 48 14) 3 N N N (s "grammarmill.regex" 882) (r 834) N 0 none) (fB (mj 48 14)) [S "self"] 1 [] :=
 ⟨⟨T "function", none, #[], by kernel_rfl⟩, rfl, by kernel_rfl, rfl, rfl, rfl, by kernel_rfl, by kernel_rfl, by kernel_rfl, bind1 (fun a _ _ => BindsTo.of_eq (by kernel_rfl)), rfl, by decide⟩
theorem fl_835 : FnLoc (fd "named" "RegexReader.named" (mj 48 14) 3 N N N (s "grammarmill.regex" 882) (r 834) N 0 none) [S "self"] := FnLoc.of (by kernel_rfl) (by kernel_rfl)
theorem fn_842 (P : Params) : FnOk P 842 (fd "span" "RegexReader.span" (mj 48 15) 3 N N N (s "grammarmill.regex" 882) (r 841) N 0 none) (fB (mj 48 15)) [S "self"] 1 [] :=
 ⟨⟨T "function", none, #[], by kernel_rfl⟩, rfl, by kernel_rfl, rfl, rfl, rfl, by kernel_rfl, by kernel_rfl, by kernel_rfl, bind1 (fun a _ _ => BindsTo.of_eq (by kernel_rfl)), rfl, by decide⟩
theorem fl_842 : FnLoc (fd "span" "RegexReader.span" (mj 48 15) 3 N N N (s "grammarmill.regex" 882) (r 841) N 0 none) [S "self"] := FnLoc.of (by kernel_rfl) (by kernel_rfl)
theorem fn_849 (P : Params) : FnOk P 849 (fd "member" "RegexReader.member" (mj 48 16) 3 N N N (s "grammarmill.regex" 882) (r 848) N 0 none) (fB (mj 48 16)) [S "self"] 1 [] :=
 ⟨⟨T "function", none, #[], by kernel_rfl⟩, rfl, by kernel_rfl, rfl, rfl, rfl, by kernel_rfl, by kernel_rfl, by kernel_rfl, bind1 (fun a _ _ => BindsTo.of_eq (by kernel_rfl)), rfl, by decide⟩
theorem fl_849 : FnLoc (fd "member" "RegexReader.member" (mj 48 16) 3 N N N (s "grammarmill.regex" 882) (r 848) N 0 none) [S "self"] := FnLoc.of (by kernel_rfl) (by kernel_rfl)
theorem fn_864d (P : Params) : FnOk P 864 (fd "read_regex" "read_regex" (mi 49) 3 (r 857) N N (s "grammarmill.regex" 882) (r 863) N 0 none) (fB (mi 49)) [S "text", S "definitions"] 1 [N] :=
 ⟨⟨T "function", none, #[], by kernel_rfl⟩, rfl, by kernel_rfl, rfl, rfl, rfl, by kernel_rfl, by kernel_rfl, by kernel_rfl, bind1 (fun a _ X => kp_binds X (by intro _; kernel_rfl)), rfl, by decide⟩
theorem fl_864 : FnLoc (fd "read_regex" "read_regex" (mi 49) 3 (r 857) N N (s "grammarmill.regex" 882) (r 863) N 0 none) [S "text", S "definitions"] := FnLoc.of (by kernel_rfl) (by kernel_rfl)
theorem fn_871 (P : Params) : FnOk P 871 (fd "show_sign" "show_sign" (mi 55) 3 N N N (s "grammarmill.regtools" 1437) (r 870) N 0 none) (fB (mi 55)) [S "sign"] 1 [] :=
 ⟨⟨T "function", none, #[], by kernel_rfl⟩, rfl, by kernel_rfl, rfl, rfl, rfl, by kernel_rfl, by kernel_rfl, by kernel_rfl, bind1 (fun a _ _ => BindsTo.of_eq (by kernel_rfl)), rfl, by decide⟩
theorem fl_871 : FnLoc (fd "show_sign" "show_sign" (mi 55) 3 N N N (s "grammarmill.regtools" 1437) (r 870) N 0 none) [S "sign"] := FnLoc.of (by kernel_rfl) (by kernel_rfl)
theorem fn_878 (P : Params) : FnOk P 878 (fd "show_chars" "show_chars" (mi 56) 3 N N N (s "grammarmill.regtools" 1437) (r 877) N 0 none) (fB (mi 56)) [S "charset"] 1 [] :=
 ⟨⟨T "function", none, #[], by kernel_rfl⟩, rfl, by kernel_rfl, rfl, rfl, rfl, by kernel_rfl, by kernel_rfl, by kernel_rfl, bind1 (fun a _ _ => BindsTo.of_eq (by kernel_rfl)), rfl, by decide⟩
theorem fl_878 : FnLoc (fd "show_chars" "show_chars" (mi 56) 3 N N N (s "grammarmill.regtools" 1437) (r 877) N 0 none) [S "charset"] := FnLoc.of (by kernel_rfl) (by kernel_rfl)
theorem fn_890 (P : Params) : FnOk P 890 (fd "show_at" "show_at" (mi 58) 3 N N N (s "grammarmill.regtools" 1437) (r 889) N 0 none) (fB (mi 58)) [S "node", S "level"] 2 [] :=
 ⟨⟨T "function", none, #[], by kernel_rfl⟩, rfl, by kernel_rfl, rfl, rfl, rfl, by kernel_rfl, by kernel_rfl, by kernel_rfl, bind2 (fun a b _ _ => BindsTo.of_eq (by kernel_rfl)), rfl, by decide⟩
theorem fl_890 : FnLoc (fd "show_at" "show_at" (mi 58) 3 N N N (s "grammarmill.regtools" 1437) (r 889) N 0 none) [S "node", S "level"] := FnLoc.of (by kernel_rfl) (by kernel_rfl)
theorem fn_897 (P : Params) : FnOk P 897 (fd "show_regex" "show_regex" (mi 59) 3 N N N (s "grammarmill.regtools" 1437) (r 896) N 0 none) (fB (mi 59)) [S "node"] 1 [] :=
 ⟨⟨T "function", none, #[], by kernel_rfl⟩, rfl, by kernel_rfl, rfl, rfl, rfl, by kernel_rfl, by kernel_rfl, by kernel_rfl, bind1 (fun a _ _ => BindsTo.of_eq (by kernel_rfl)), rfl, by decide⟩
theorem fl_897 : FnLoc (fd "show_regex" "show_regex" (mi 59) 3 N N N (s "grammarmill.regtools" 1437) (r 896) N 0 none) [S "node"] := FnLoc.of (by kernel_rfl) (by kernel_rfl)
theorem fn_902 (P : Params) : FnOk P 902 (fd "_law_pen" "_law_pen" (mi 62) 3 N N N (s "law_pq0578_01" 1482) (r 901) N 0 none) (fB (mi 62)) [S "script"] 1 [] :=
 ⟨⟨T "function", none, #[], by kernel_rfl⟩, rfl, by kernel_rfl, rfl, rfl, rfl, by kernel_rfl, by kernel_rfl, by kernel_rfl, bind1 (fun a _ _ => BindsTo.of_eq (by kernel_rfl)), rfl, by decide⟩
theorem fl_902 : FnLoc (fd "_law_pen" "_law_pen" (mi 62) 3 N N N (s "law_pq0578_01" 1482) (r 901) N 0 none) [S "script"] := FnLoc.of (by kernel_rfl) (by kernel_rfl)
theorem fn_909 (P : Params) : FnOk P 909 (fd "_law_draw" "_law_draw" (mi 63) 3 N N N (s "law_pq0578_01" 1482) (r 908) N 0 none) (fB (mi 63)) [S "pen", S "many"] 2 [] :=
 ⟨⟨T "function", none, #[], by kernel_rfl⟩, rfl, by kernel_rfl, rfl, rfl, rfl, by kernel_rfl, by kernel_rfl, by kernel_rfl, bind2 (fun a b _ _ => BindsTo.of_eq (by kernel_rfl)), rfl, by decide⟩
theorem fl_909 : FnLoc (fd "_law_draw" "_law_draw" (mi 63) 3 N N N (s "law_pq0578_01" 1482) (r 908) N 0 none) [S "pen", S "many"] := FnLoc.of (by kernel_rfl) (by kernel_rfl)
theorem fn_914 (P : Params) : FnOk P 914 (fd "_law_words" "_law_words" (mi 64) 3 N N N (s "law_pq0578_01" 1482) (r 913) N 0 none) (fB (mi 64)) [] 0 [] :=
 ⟨⟨T "function", none, #[], by kernel_rfl⟩, rfl, by kernel_rfl, rfl, rfl, rfl, by kernel_rfl, by kernel_rfl, by kernel_rfl, bind0 (fun _ _ => BindsTo.of_eq (by kernel_rfl)), rfl, by decide⟩
theorem fn_919 (P : Params) : FnOk P 919 (fd "_law_held" "_law_held" (mi 65) 3 N N N (s "law_pq0578_01" 1482) (r 918) N 0 none) (fB (mi 65)) [S "pen", S "words"] 2 [] :=
 ⟨⟨T "function", none, #[], by kernel_rfl⟩, rfl, by kernel_rfl, rfl, rfl, rfl, by kernel_rfl, by kernel_rfl, by kernel_rfl, bind2 (fun a b _ _ => BindsTo.of_eq (by kernel_rfl)), rfl, by decide⟩
theorem fn_926 (P : Params) : FnOk P 926 (fd "_law_spans" "_law_spans" (mi 66) 3 N N N (s "law_pq0578_01" 1482) (r 925) N 0 none) (fB (mi 66)) [S "held"] 1 [] :=
 ⟨⟨T "function", none, #[], by kernel_rfl⟩, rfl, by kernel_rfl, rfl, rfl, rfl, by kernel_rfl, by kernel_rfl, by kernel_rfl, bind1 (fun a _ _ => BindsTo.of_eq (by kernel_rfl)), rfl, by decide⟩
theorem fl_926 : FnLoc (fd "_law_spans" "_law_spans" (mi 66) 3 N N N (s "law_pq0578_01" 1482) (r 925) N 0 none) [S "held"] := FnLoc.of (by kernel_rfl) (by kernel_rfl)
theorem fn_933 (P : Params) : FnOk P 933 (fd "_law_hex" "_law_hex" (mi 67) 3 N N N (s "law_pq0578_01" 1482) (r 932) N 0 none) (fB (mi 67)) [S "code"] 1 [] :=
 ⟨⟨T "function", none, #[], by kernel_rfl⟩, rfl, by kernel_rfl, rfl, rfl, rfl, by kernel_rfl, by kernel_rfl, by kernel_rfl, bind1 (fun a _ _ => BindsTo.of_eq (by kernel_rfl)), rfl, by decide⟩
theorem fl_933 : FnLoc (fd "_law_hex" "_law_hex" (mi 67) 3 N N N (s "law_pq0578_01" 1482) (r 932) N 0 none) [S "code"] := FnLoc.of (by kernel_rfl) (by kernel_rfl)
theorem fn_940 (P : Params) : FnOk P 940 (fd "_law_inner" "_law_inner" (mi 68) 3 N N N (s "law_pq0578_01" 1482) (r 939) N 0 none) (fB (mi 68)) [S "code"] 1 [] :=
 ⟨⟨T "function", none, #[], by kernel_rfl⟩, rfl, by kernel_rfl, rfl, rfl, rfl, by kernel_rfl, by kernel_rfl, by kernel_rfl, bind1 (fun a _ _ => BindsTo.of_eq (by kernel_rfl)), rfl, by decide⟩
theorem fl_940 : FnLoc (fd "_law_inner" "_law_inner" (mi 68) 3 N N N (s "law_pq0578_01" 1482) (r 939) N 0 none) [S "code"] := FnLoc.of (by kernel_rfl) (by kernel_rfl)
theorem fn_947 (P : Params) : FnOk P 947 (fd "_law_shown" "_law_shown" (mi 69) 3 N N N (s "law_pq0578_01" 1482) (r 946) N 0 none) (fB (mi 69)) [S "held"] 1 [] :=
 ⟨⟨T "function", none, #[], by kernel_rfl⟩, rfl, by kernel_rfl, rfl, rfl, rfl, by kernel_rfl, by kernel_rfl, by kernel_rfl, bind1 (fun a _ _ => BindsTo.of_eq (by kernel_rfl)), rfl, by decide⟩
theorem fl_947 : FnLoc (fd "_law_shown" "_law_shown" (mi 69) 3 N N N (s "law_pq0578_01" 1482) (r 946) N 0 none) [S "held"] := FnLoc.of (by kernel_rfl) (by kernel_rfl)
theorem fn_954 (P : Params) : FnOk P 954 (fd "_law_spelled" "_law_spelled" (mi 70) 3 N N N (s "law_pq0578_01" 1482) (r 953) N 0 none) (fB (mi 70)) [S "pen", S "code"] 2 [] :=
 ⟨⟨T "function", none, #[], by kernel_rfl⟩, rfl, by kernel_rfl, rfl, rfl, rfl, by kernel_rfl, by kernel_rfl, by kernel_rfl, bind2 (fun a b _ _ => BindsTo.of_eq (by kernel_rfl)), rfl, by decide⟩
theorem fl_954 : FnLoc (fd "_law_spelled" "_law_spelled" (mi 70) 3 N N N (s "law_pq0578_01" 1482) (r 953) N 0 none) [S "pen", S "code"] := FnLoc.of (by kernel_rfl) (by kernel_rfl)
theorem fn_959 (P : Params) : FnOk P 959 (fd "_law_class" "_law_class" (mi 71) 3 N N N (s "law_pq0578_01" 1482) (r 958) N 0 none) (fB (mi 71)) [S "pen", S "held", S "words"] 3 [] :=
 ⟨⟨T "function", none, #[], by kernel_rfl⟩, rfl, by kernel_rfl, rfl, rfl, rfl, by kernel_rfl, by kernel_rfl, by kernel_rfl, bind3 (fun a b c _ _ => BindsTo.of_eq (by kernel_rfl)), rfl, by decide⟩
theorem fn_966 (P : Params) : FnOk P 966 (fd "_law_heard" "_law_heard" (mi 72) 3 N N N (s "law_pq0578_01" 1482) (r 965) N 0 none) (fB (mi 72)) [S "text"] 1 [] :=
 ⟨⟨T "function", none, #[], by kernel_rfl⟩, rfl, by kernel_rfl, rfl, rfl, rfl, by kernel_rfl, by kernel_rfl, by kernel_rfl, bind1 (fun a _ _ => BindsTo.of_eq (by kernel_rfl)), rfl, by decide⟩
theorem fl_966 : FnLoc (fd "_law_heard" "_law_heard" (mi 72) 3 N N N (s "law_pq0578_01" 1482) (r 965) N 0 none) [S "text"] := FnLoc.of (by kernel_rfl) (by kernel_rfl)
theorem fn_971 (P : Params) : FnOk P 971 (fd "_law_refused" "_law_refused" (mi 73) 3 N N N (s "law_pq0578_01" 1482) (r 970) N 0 none) (fB (mi 73)) [S "pen"] 1 [] :=
 ⟨⟨T "function", none, #[], by kernel_rfl⟩, rfl, by kernel_rfl, rfl, rfl, rfl, by kernel_rfl, by kernel_rfl, by kernel_rfl, bind1 (fun a _ _ => BindsTo.of_eq (by kernel_rfl)), rfl, by decide⟩
theorem fl_971 : FnLoc (fd "_law_refused" "_law_refused" (mi 73) 3 N N N (s "law_pq0578_01" 1482) (r 970) N 0 none) [S "pen"] := FnLoc.of (by kernel_rfl) (by kernel_rfl)
end Mine
end
section
open PySem PySem.W PyProof.Rows PySem.Calls
open Builtin Builtin.ObjectAttr
namespace Mine
noncomputable abbrev xo (od : Option Addr) (a0 : Value) : Obj := ⟨.ref 95, od, .fields #[a0, .none, .none, .none, .bool false, .none], #[]⟩
theorem putF_len (n : Str) (w : V) : ∀ (ns : List Str) (vs : List V), (putF n w ns vs).2.length ≤ vs.length + 1 := by
 intro ns vs
 induction vs generalizing ns with
 | nil => cases ns <;> simp [putF]
 | cons v vs ih =>
  cases ns with
  | nil => simp [putF]
  | cons n' ns =>
   simp only [putF]
   split
   ·simp
   ·have := ih ns; simp only [List.length_cons]; exact oo4 this
section
variable {C : Fm} {Z : Led} {hp : HP} {lc : Loc} {s : Shared} {x : HP → Prop}
theorem store_ad {A : Around} {E : Value → Shared → Prop} {Q : Fin → Shared → Prop} {m : Str → Option Value} {mu : Mut} {fo : Led} {dx : Addr} {ns : List Str} {vs : List V} {n : Str} {w : V} {u : Value} {tk : Tok}
  (X : RelX C Z hp s.heap m mu fo) (i : hp dx = some (.adict ns vs)) (d : den C.W Z w u) (hz : vs.length ≤ 900)
  (h : ∀ h' t mu', RelX C Z (hp.set dx (.adict (putF n w ns vs).1 (putF n w ns vs).2)) h' m mu' fo → Q (.done (.ret .none)) { s with heap := h', toks := t }) :
  wpAny (model pw C.W.w) A (storeInDict dx (.str n tk) n u) Q E s := by
 obtain ⟨key, ob, m1, rfl, es, ne, rfl, D⟩ := X.hp dx _ i
 have g := (X.N (key, dictOf es ne) (List.mem_append_right _ (List.mem_append_left _ (List.mem_map_of_mem m1)))).1
 unfold storeInDict newKeyGuard
 refine wpAny_bind (wpAny_pure (wpAny_bind ?_))
 unfold nsSet
 refine wpAny_bind (wpAny_bind (wpAny_askSetting (wpAny_pure (wpAny_bind (wpAny_mkText (wpAny_bind (wpAny_loadPart g ?_)))))))
 have hl := getL_isSome (n := n) D
 have D' := putL_den (hs := PyData.keyHash C.W.w.params n) (t := s.toks) (n := n) d D
 have hlen : (putL n (PyData.keyHash C.W.w.params n) (.str n s.toks) u es).length ≤ 1000 := by
  rw [denF_length D']
  have := putF_len n w ns vs
  exact ok4 this hz
 dsimp only
 have c : (!es.toArray.any (·.key.isStr n) && es.toArray.any (·.refKey)) = false := by
  rw [← Array.any_toList, ← Array.any_toList]
  unfold getL at hl
  split at hl
  ·rename_i en he
   rw [List.any_eq_true.mpr ⟨en, List.mem_of_find?_eq_some he, List.find?_some he⟩]; rfl
  ·split at hl
   ·cases hl
   ·rename_i z; rw [Bool.not_eq_true] at z; rw [z, Bool.and_false]
 rw [aRefKeyMayBeTheName_at, c]
 have e := putName_dict n (PyData.keyHash C.W.w.params n) (.str n s.toks) u es ne
 have g' := Heap.get?_update_self (Obj.putName n (PyData.keyHash C.W.w.params n) (.str n s.toks) u) g (by rw [e]; rfl)
 obtain ⟨mu', X'⟩ := X.turn (o' := .adict (putF n w ns vs).1 (putF n w ns vs).2) m1 (Heap.SameBut.update ..) g' ⟨rfl, _, _, e, D'⟩
 refine wpAny_updatePart g ?_
 refine wpAny_bind (wpAny_lookBehind g' (by rw [e]; exact pastItsLine_dict (by rw [List.size_toArray, sizeLine_eq]; exact oh13 hlen)) ?_)
 exact wpAny_pure (h _ _ mu' X')
theorem osa_x {A : Around} {R : Result → Shared → Prop} {e : Addr} {od : Option Addr} {a0 : Value} {ob : Option Obj} {name : Str} {tk : Tok} {v : Value} (X : (K C.W.w.params).In s.heap) (I : InstAt s.heap e (xo od a0) 95 ob) (ht : takerIn (K C.W.w.params) 95 name = some none)
  (h : ∀ b, wpAny (model pw C.W.w) A.in1 (storeInOwnDict (.ref e) (.ref 95) (.str name tk) name v b)
   (fun fin s' => match fin with | .done f => R (.ok f) s' | .again c' => c'.quiet = true ∧ codeAny (model pw C.W.w) A c' R s') (fun e s' => R (.error e) s') s) :
  codeAny (model pw C.W.w) A (.call (.builtin "object.__setattr__") ⟨[.ref e, .str name tk, v], []⟩) R s := by
 have SF := PySem.F.store_object
 have hc : clsIn (K C.W.w.params) 95 = some ⟨S "RegexError", [(r 82)], [(r 95), (r 82), (T "Exception"), (T "BaseException"), (T "object")], 94, S "RegexError", true, [], [], false, none, false⟩ := by kernel_rfl
 have sub : Looks (model pw C.W.w) s.heap (isInstance (.ref e) (.type "object")) true := I.type.andThen (looks_mroIn X (by kernel_rfl))
 refine codeAny_call_builtin SF.slot.plain SF.entry (@check_slot (model pw C.W.w) _ _ s "object.__setattr__" "object" "__setattr__" (.ref e) [.str name tk, v] [] _ SF.kind SF.split sub (SF.args (.ref e) (.str name tk) v) ?_)
 obtain ⟨attr, ha, hr⟩ := Option.bind_eq_some_iff.mp ht
 have hm : Looks (model pw C.W.w) s.heap (mroOf (.ref 95)) [(r 95), (r 82), (T "Exception"), (T "BaseException"), (T "object")] := (looks_clsIn X hc).andThen .now
 have L3 : Looks (model pw C.W.w) s.heap (storeTaker? attr) none := by
  cases attr with
  | none => exact .now
  | some a =>
   obtain ⟨b, hb, hr⟩ := Option.map_eq_some_iff.mp hr
   refine (looks_takesIn X hb).andThen ?_
   cases b
   ·exact .now
   ·cases hr
 rw [osa_eq, refuse_eq]
 refine wpAny_bind (wpAny_bind (I.type.here (wpAny_bind (hm.here ?_))))
 rw [refuseLoop_ref, refuseLoop_ref, PySem.F.store_Exception.passes]
 refine wpAny_pure (wpAny_bind (I.type.here (wpAny_bind ((looks_findIn X ha).here (wpAny_bind (L3.here ?_))))))
 exact h _
theorem OpSetAttr.exc {e dx : Addr} {ns : List Str} {vs : List V} {n : Str} {w : V} {k : Unit → Loc → HP → Prop} (i : hp e = some (.exc (some dx))) (i2 : hp dx = some (.adict ns vs)) (ht : takerIn (K C.W.w.params) 95 n = some none) (hz : vs.length ≤ 900)
  (h : k () lc (hp.set dx (.adict (putF n w ns vs).1 (putF n w ns vs).2))) : OpSetAttr C (.ref e) n w k x lc hp := by
 intro Z s Q E us ok R d nn y
 simp only [denL] at d
 obtain ⟨u, us', rfl, d1, wu, us2, rfl, d2, rfl⟩ := d
 obtain ⟨m, mu, fo, X, l⟩ := R
 obtain rfl : u = .ref e := d1
 obtain ⟨key, ob, h1, rfl, a0, rfl⟩ := X.hp e _ i
 obtain ⟨key2, ob2, h2, rfl, es, ne, rfl, D⟩ := X.hp dx _ i2
 have g1 := (X.N (key, _) (List.mem_append_right _ (List.mem_append_left _ (List.mem_map_of_mem h1)))).1
 have g2 := (X.N (key2, _) (List.mem_append_right _ (List.mem_append_left _ (List.mem_map_of_mem h2)))).1
 have KX := ok.wok.X.keeps X.F.keep
 have hc : clsIn (K C.W.w.params) 95 = some ⟨S "RegexError", [(r 82)], [(r 95), (r 82), (T "Exception"), (T "BaseException"), (T "object")], 94, S "RegexError", true, [], [], false, none, false⟩ := by kernel_rfl
 have I : InstAt s.heap key (xo (some key2) a0) 95 (some (dictOf es ne)) := ⟨g1, rfl, rfl, g2⟩
 refine set_plain KX I (by kernel_rfl) (osa_x (s := { s with toks := s.toks + 1 }) KX I ht fun b => ?_)
 refine wpAny_bind (wpAny_pure (wpAny_bind (wpAny_bind (wpAny_loadPart g1 (wpAny_bind (looks_clsIn KX hc _ _ _ _ (fun _ _ e => e) ?_))))))
 refine wpAny_pure (a := some key2) (wpAny_bind (wpAny_pure ?_))
 exact store_ad (tk := s.toks) (s := { s with toks := s.toks + 1 }) X i2 d2 hz fun h' t mu' X' => nn Z () () lc _ _ (sub_refl Z) trivial ⟨m, mu', fo, X', l⟩ (Same.mk' s h' _) h
theorem OpSetAttr.exc0 {e : Addr} {n : Str} {w : V} {k : Unit → Loc → HP → Prop} (i : hp e = some (.exc none)) (ht : takerIn (K C.W.w.params) 95 n = some none)
  (h : ∀ dx, hp dx = none → k () lc (((hp.set dx (.adict [] [])).set e (.exc (some dx))).set dx (.adict [n] [w]))) : OpSetAttr C (.ref e) n w k x lc hp := by
 intro Z s Q E us ok R d nn y
 simp only [denL] at d
 obtain ⟨u, us', rfl, d1, wu, us2, rfl, d2, rfl⟩ := d
 obtain ⟨m, mu, fo, X, l⟩ := R
 obtain rfl : u = .ref e := d1
 obtain ⟨key, ob, h1, rfl, a0, rfl⟩ := X.hp e _ i
 have g1 := (X.N (key, _) (List.mem_append_right _ (List.mem_append_left _ (List.mem_map_of_mem h1)))).1
 have KX := ok.wok.X.keeps X.F.keep
 have hc : clsIn (K C.W.w.params) 95 = some ⟨S "RegexError", [(r 82)], [(r 95), (r 82), (T "Exception"), (T "BaseException"), (T "object")], 94, S "RegexError", true, [], [], false, none, false⟩ := by kernel_rfl
 have I : InstAt s.heap key (xo none a0) 95 none := ⟨g1, rfl, rfl, trivial⟩
 have X1 := X.pushM (dictOf [] 0) (.adict [] []) rfl ⟨rfl, [], 0, rfl, rfl, rfl⟩
 have hdn : hp s.heap.objs.size = none := hp_none X (Nat.le_refl _)
 have ne : key ≠ s.heap.objs.size := Nat.ne_of_lt (Heap.lt_size g1)
 have g1' := Heap.get?_push_of_some (dictOf [] 0) g1
 have g2 := Heap.get?_update_self (fun o => { o with dict := some s.heap.objs.size }) g1' rfl
 obtain ⟨mu2, X2⟩ := X1.turn (o' := .exc (some s.heap.objs.size)) (.tail _ h1) (Heap.SameBut.update ..) g2 ⟨rfl, a0, rfl⟩
 refine set_plain KX I (by kernel_rfl) (osa_x (s := { s with toks := s.toks + 1 }) KX I ht fun b => ?_)
 refine wpAny_bind (wpAny_pure (wpAny_bind (wpAny_bind (wpAny_loadPart g1 (wpAny_bind (looks_clsIn KX hc _ _ _ _ (fun _ _ e => e) ?_))))))
 refine wpAny_bind (wpAny_alloc' ?_)
 refine wpAny_bind (wpAny_update' g1' ?_)
 refine wpAny_pure (wpAny_bind (wpAny_pure ?_))
 refine store_ad (tk := s.toks) (ns := []) (vs := []) (s := { s with heap := (s.heap.push (dictOf [] 0)).update key (fun o => { o with dict := some s.heap.objs.size }), toks := s.toks + 1 }) X2 ?_ d2 (Nat.zero_le _) fun h' t mu' X' => nn Z () () lc _ _ (sub_refl Z) trivial ⟨m, mu', fo, X', l⟩ (Same.mk' s h' _) (h _ hdn)
 unfold HP.set
 rw [if_neg (Ne.symm ne), if_pos rfl]
theorem HP.set_same {hp : HP} {a : Addr} {o : O} (h : hp a = some o) : hp.set a o = hp := by
 funext b
 unfold HP.set
 by_cases q : b = a
 ·rw [if_pos q, q, h]
 ·rw [if_neg q]
theorem tyExc : typeOf (.type "Exception") = pure (.type "type") := by kernel_rfl
theorem excInit_cls (P : Params) : findCls (K P) (.type "Exception") (.type "type") "__init__" = some (.val (.builtin "Exception.__init__")) := by kernel_rfl
theorem OpMeth.excInit {k : V × List V → Loc → HP → Prop} (h : k (.raw (.builtin "Exception.__init__"), []) lc hp) : OpMeth C (.raw (.type "Exception")) "__init__" k x lc hp := by
 intro pl Z s Q E us ok R d nn y
 obtain ⟨u, rfl, du⟩ := den1 d
 obtain rfl : u = .type "Exception" := du
 obtain ⟨m, mu, fo, X, l⟩ := id R
 exact method_type X.F ok.wok.X tyExc (by decide +kernel) (excInit_cls _) rfl (nn Z (.raw (.builtin "Exception.__init__"), []) _ lc hp _ (sub_refl Z) ⟨rfl, rfl⟩ R (Same.mk' s s.heap _) h)
theorem OpCall.excInit {e : Addr} {od : Option Addr} {w : V} {k : V → Loc → HP → Prop} (i : hp e = some (.exc od)) (h : k .none lc hp) : OpCall C (.raw (.builtin "Exception.__init__")) [.ref e, w] k x lc hp := by
 intro Z s Q E us ok R d nn y
 simp only [denL] at d
 obtain ⟨_, _, rfl, rfl, _, _, rfl, d1, wu, _, rfl, d2, rfl⟩ := d
 simp only [den] at d1
 subst d1
 obtain ⟨m, mu, fo, X, l⟩ := R
 obtain ⟨key, ob, h1, rfl, a0, rfl⟩ := X.hp e _ i
 have g1 := (X.N (key, _) (List.mem_append_right _ (List.mem_append_left _ (List.mem_map_of_mem h1)))).1
 have KX := ok.wok.X.keeps X.F.keep
 have F := PySem.F.excBase_Exception
 have sub : Looks (model pw C.W.w) s.heap (isInstance (.ref key) (.type "Exception")) true := (Looks.ld (part := none) g1).andThen (looks_mroIn KX (by kernel_rfl))
 have chk : ∀ {A : Around} {E : Value → Shared → Prop} {Q : Unit → Shared → Prop}, Q () s → wpAny (model pw C.W.w) A (checkBuiltinCall "Exception.__init__" ⟨[.ref key, wu], []⟩) Q E s := by
  intro A E Q hq
  have hshort := F.noStar
  simp only [checkBuiltinCall, F.initKind, F.initSplit, F.initRow]
  refine wpAny_bind (sub.here ?_)
  have hC : s.heap.get? 95 = some (o95) := KX _ _ (by kernel_rfl)
  unfold o95 at hC
  obtain ⟨hp', g', d', t', os'⟩ := s
  dsimp only at g1 hC
  repeat (first | (with_reducible refine wpAny_loadPart_at g1 ?_) | with_reducible refine wpAny_loadPart_at hC ?_ | with_reducible refine wpAny_load hC ?_ | wp_step)
  exact hq
 refine wpAny_call (codeAny_call_builtin F.init.plain F.initEntry (chk ?_))
 unfold Builtin.«BaseException.__init__»
 dsimp only [List.drop_succ_cons, List.drop_zero]
 have X1 := X.push2 (tupO #[wu] 0) rfl
 have g1' := Heap.get?_push_of_some (tupO #[wu] 0) g1
 have g2 := Heap.get?_update_self (Obj.mapFields fun x => x.setIfInBounds 0 (Value.ref s.heap.objs.size)) g1' rfl
 obtain ⟨mu2, X2⟩ := X1.turn (o' := .exc od) h1 (Heap.SameBut.update ..) g2 ⟨rfl, .ref s.heap.objs.size, rfl⟩
 rw [HP.set_same i] at X2
 have fin := nn Z .none .none lc hp { s with heap := (s.heap.push (tupO #[wu] 0)).update key (Obj.mapFields fun x => x.setIfInBounds 0 (Value.ref s.heap.objs.size)) } (sub_refl Z) rfl ⟨m, mu2, fo, X2, l⟩ (Same.mk' s _ s.toks) h
 obtain ⟨hp', g', d', t', os'⟩ := s
 dsimp only at g1 g1' fin
 repeat (first | (with_reducible refine wpAny_loadPart_at g1' ?_) | (with_reducible refine wpAny_load g1' ?_) | wp_step)
 cases a0 <;> first | exact wpAny_pure (wpAny_pure fin) | exact wpAny_letGo (wpAny_pure fin)
end
end Mine
end
section
open PySem PySem.W PyProof.Rows PySem.Calls
open Builtin Builtin.ObjectAttr
namespace Mine
noncomputable abbrev mro95 : List Value := [(r 82), (T "Exception"), (T "BaseException"), (T "object")]
noncomputable abbrev o95' : Obj := excClassObj (S "RegexError") (S "RegexError") 95 94 [(r 82)] mro95 true [] [] false none none (some (r 86)) none (some (s "RegexError" 326)) (some (s "RegexError" 334)) (some (.bool true)) "Exception.__new__"
theorem k95 (P : Params) : (K P).lookup 95 = some o95' := by kernel_rfl
section
variable {w : World} {A : Around} {E : Value → Shared → Prop} {R : Result → Shared → Prop} {h : Heap} {g : Array GenState} {d : Drawn} {t : Nat} {os : OsState}
theorem new_chk {rest : List Value} {Q : Unit → Shared → Prop} (hC : h.get? 95 = some o95') (hq : Q () ⟨h, g, d, t, os⟩) : wpAny (model pw w) A (checkBuiltinCall "Exception.__new__" ⟨.ref 95 :: rest, []⟩) Q E ⟨h, g, d, t, os⟩ := by
 have F := PySem.F.excBase_Exception
 have hcont : (Value.ref 95 :: mro95).contains (.type "Exception") = true := by decide
 have hstar := F.noStar
 simp only [checkBuiltinCall, F.newKind, F.newSplit, F.newRow]
 repeat (first | refine wpAny_loadPart_at hC ?_ | (refine wpAny_isSubtype_exc hC ?_; rw [hcont]) | refine wpAny_staticBase_exc hC ?_ | refine wpAny_madeBy_exc hC ?_ | simp only [bne_self_eq_false, Bool.false_eq_true, if_false] | wp_step)
 exact hq
theorem new_run {rest : List Value} (hC : h.get? 95 = some o95') (hrest : rest.length ≤ sizeLine)
  (hq : R (.ok (.ret (.ref (h.objs.size + 1)))) ⟨(h.push { cls := .type "tuple", data := .seq rest.toArray }).push (xo none (.ref h.objs.size)), g, d, t, os⟩) :
  codeAny (model pw w) A (.builtin "Exception.__new__" ⟨.ref 95 :: rest, []⟩) R ⟨h, g, d, t, os⟩ := by
 have F := PySem.F.excBase_Exception
 have hends := F.ends
 have hcB : (Value.ref 95 :: mro95).contains (.type "Exception") = true := by decide
 have hcA : (Value.ref 95 :: mro95).contains (.type "AttributeError") = false := by decide
 have hcN : (Value.ref 95 :: mro95).contains (.type "NameError") = false := by decide
 refine codeAny_builtinAt F.entry ?_
 unfold Builtin.«BaseException.__new__»
 refine PySem.wpAt_bind ?_
 show PySem.wpAt _ _ _ (stack >>= _) _ _ _
 refine PySem.wpAt_bind (PySem.wpAt_stack fun p below => PySem.wpAt_of_wpAny ?_)
 wp_walk
 refine PySem.wpAt_of_wpAny ?_
 rw [F.owner]
 repeat (first | with_reducible refine wpAny_madeHere_exc F.canon hC ?_ | with_reducible refine wpAny_loadPart_at hC ?_ | (with_reducible refine wpAny_isSubtype_exc hC ?_; first | rw [hcB] | rw [hcA] | rw [hcN]) | wp_step)
 show R _ _
 rw [Heap.size_push]
 exact hq
theorem make95 {rest : List Value} (X : (K w.params).In h) (hrest : rest.length ≤ sizeLine)
  (hq : codeAny (model pw w) (A.under (.builtin "type.__call__" ⟨.ref 95 :: rest, []⟩)) (.call (.ref 72) ⟨.ref (h.objs.size + 1) :: rest, []⟩) (InitBack (h.objs.size + 1) R)
   ⟨(h.push { cls := .type "tuple", data := .seq rest.toArray }).push (xo none (.ref h.objs.size)), g, d, t, os⟩) :
  codeAny (model pw w) A (.call (.ref 95) ⟨rest, []⟩) R ⟨h, g, d, t, os⟩ := by
 have F := PySem.F.excBase_Exception
 have hC : h.get? 95 = some o95' := X _ _ (k95 _)
 have call : Looks (model pw w) h (specialOf (.ref 95) "__call__") (some (.builtin "type.__call__")) := looks_specialIn X (by kernel_rfl)
 have typ : Looks (model pw w) h (isInstance (.ref 95) (.type "type")) true := looks_instIn X (by kernel_rfl)
 have k : ∀ b o, h.get? b = some o → ((h.push { cls := .type "tuple", data := .seq rest.toArray }).push (xo none (.ref h.objs.size))).get? b = some o := fun b o e => Heap.get?_push_of_some _ (Heap.get?_push_of_some _ e)
 have hx : ((h.push { cls := .type "tuple", data := .seq rest.toArray }).push (xo none (.ref h.objs.size))).get? (h.objs.size + 1) = some (xo none (.ref h.objs.size)) := by heap_get
 have X' : (K w.params).In ((h.push { cls := .type "tuple", data := .seq rest.toArray }).push (xo none (.ref h.objs.size))) := X.keeps k
 have t1 : Looks (model pw w) ((h.push { cls := .type "tuple", data := .seq rest.toArray }).push (xo none (.ref h.objs.size))) (typeOf (.ref (h.objs.size + 1))) (.ref 95) := (Looks.ld hx).andThen .now
 have s1 : Looks (model pw w) ((h.push { cls := .type "tuple", data := .seq rest.toArray }).push (xo none (.ref h.objs.size))) (isSubtype (.ref 95) (.ref 95)) true := looks_mroIn X' (by kernel_rfl)
 have i1 : Looks (model pw w) ((h.push { cls := .type "tuple", data := .seq rest.toArray }).push (xo none (.ref h.objs.size))) (typeLookup (.ref 95) "__init__") (some (.ref 72)) := looks_findIn X' (by kernel_rfl)
 have b1 : Looks (model pw w) ((h.push { cls := .type "tuple", data := .seq rest.toArray }).push (xo none (.ref h.objs.size))) (bindSpecial (.ref 72) (.ref (h.objs.size + 1))) (.ref 72, [.ref (h.objs.size + 1)]) := bind_fn X' _ (by kernel_rfl)
 refine codeAny_of_tree ?_
 show wpAny _ _ (callAny (.ref 95) _) _ _ _
 refine nd_load hC ?_
 show wpAny _ _ (callAny.viaDunder (.ref 95) _) _ _ _
 unfold callAny.viaDunder
 refine wpAny_bind (call.at ?_)
 dsimp only
 rw [tc_bind]
 refine wpAny_bind (wpAny_pure (wpAny_bind (wpAny_pure ?_)))
 refine wpAny_pure (a := Fin.again (.call (.builtin "type.__call__") ⟨.ref 95 :: rest, []⟩)) (And.intro rfl ?_)
 refine codeAny_call_builtin_at (Code.quiet_builtin _ (by decide +kernel)) entry_typeCall (check_slot tc_kind tc_split typ (tc_args _ _ _) ?_)
 unfold Builtin.«type.__call__»
 have hm : Looks (model pw w) h (mroOf (.ref 95)) (.ref 95 :: mro95) := ((Looks.ld (part := none) hC).andThen .now).andThen .now
 have made : Looks (model pw w) h (Bind.madeBy (.ref 95)) (some "Exception.__new__") := by
  intro A Q E s kk q
  obtain ⟨h', g', d', t', os'⟩ := s
  exact wpAny_madeBy_exc (kk _ _ hC) q
 repeat (first | with_reducible refine wpAny_call ?_ | lk)
 refine codeAny_call_builtin_code (Code.quiet_builtin _ F.quiet) (new_chk hC (new_run hC hrest ?_))
 dsimp only
 unfold isInstance callSpecial? specialOf
 repeat (first | with_reducible refine wpAny_call ?_ | lk)
 refine codeAny_mono hq fun r s' z => ?_
 rcases r with e | (v | _ | _ | _) <;> first | exact z | exact z.elim | skip
 obtain ⟨rfl, z⟩ := z
 exact wpAny_pure (wpAny_pure z)
end
section
variable {C : Fm} {Z : Led} {hp : HP} {lc : Loc} {s : Shared} {x : HP → Prop}
theorem OpCall.clsX {fd : FuncData} {body : List Stmt} {ns : List Str} {nv : Nat} {vs : List V} (rm : Nat) {k : V → Loc → HP → Prop}
  (G : FnOk C.W.w.params 72 fd body ns nv []) (G2 : FnLoc fd ns) (hnv : vs.length + 1 = nv) (hrm : rm + 1 < C.rm) (hz : vs.length ≤ sizeLine)
  (hb : ∀ a, hp a = none → ∀ C', Callee C C' fd rm → SXs C' body (fun fl _ hp' => retV fl = .none ∧ k (.ref a) lc hp') x (ns.zip (.ref a :: vs ++ [])) (hp.set a (.exc none))) : OpCall C (.ref 95) vs k x lc hp := by
 intro Z s Q E us ok R d n y
 simp only [denL] at d
 obtain ⟨fu, us', rfl, d1, d2⟩ := d
 obtain rfl : fu = .ref 95 := d1
 obtain ⟨m, mu, fo, X, l⟩ := R
 have h1 := ok.depth
 have h2 := ok.units
 have KX := ok.wok.X.keeps X.F.keep
 have X1 := X.push2 (tupO us'.toArray 0) rfl
 have X2 := X1.pushM (xo none (.ref s.heap.objs.size)) (.exc none) rfl ⟨rfl, _, rfl⟩
 rw [Heap.size_push] at X2
 have hn : hp (s.heap.objs.size + 1) = none := hp_none X (Nat.le_succ _)
 have R1 : Rel C Z lc (hp.set (s.heap.objs.size + 1) (.exc none)) ((s.heap.push (tupO us'.toArray 0)).push (xo none (.ref s.heap.objs.size))) := ⟨m, _, fo, X2, l⟩
 obtain ⟨hh, g, dr, t, os⟩ := s
 dsimp only at KX X1 X2 hn R1
 refine wpAny_call (make95 KX (by show us'.length ≤ sizeLine; rw [denL_length d2]; exact hz) ?_)
 refine code_fn (A1 := C.A.under (.builtin "type.__call__" ⟨.ref 95 :: us', []⟩)) (C := C) (vs := .ref (hh.objs.size + 1) :: vs) (us := .ref (hh.objs.size + 1) :: us') (Z := Z) (hp := hp.set (hh.objs.size + 1) (.exc none)) (lc := lc) (x := x) (k := fun v hp' => v = .none ∧ k (.ref (hh.objs.size + 1)) lc hp')
  (s := ⟨(hh.push (tupO us'.toArray 0)).push (xo none (.ref hh.objs.size)), g, dr, t, os⟩) ok ?_ rfl ?_ ?_ G G2 hnv (ds := []) (fun _ => rfl) R1 ⟨_, _, rfl, rfl, d2⟩ (hb _ hn) ?_ ?_
 ·have e1 : (C.A.under (.builtin "type.__call__" ⟨.ref 95 :: us', []⟩)).frames = pushEnvs (Code.envs (.builtin "type.__call__" ⟨.ref 95 :: us', []⟩)) C.A.frames := rfl
  rw [e1, ok.hfr]; rfl
 ·show C.A.depth + 1 + rm + 1 < _; exact oq2 hrm h1
 ·have e2 : (C.A.under (.builtin "type.__call__" ⟨.ref 95 :: us', []⟩)).units = C.A.units + 1 := rfl
  rw [e2]; exact of1 hrm h2
 ·intro Z' v u hp' s' z' dv R' sm kk
  obtain ⟨rfl, kk⟩ := kk
  obtain rfl : u = .none := dv
  exact ⟨rfl, n Z' (.ref (hh.objs.size + 1)) _ lc hp' s' z' rfl R' ((Same.mk' ⟨hh, g, dr, t, os⟩ _ t).trans sm) kk⟩
 ·intro Z' e hp' s' z' ex sm xx
  exact y Z' e hp' s' z' ex ((Same.mk' ⟨hh, g, dr, t, os⟩ _ t).trans sm) xx
theorem RelX.remove {h : Heap} {m : Str → Option Value} {mu : Mut} {fo : Led} (X : RelX C Z hp h m mu fo) {a : Addr} {od : Option Addr} (e : hp a = some (.exc od)) :
  ∃ mu' a0, RelX C Z (hp.del a) h m mu' fo ∧ h.get? a = some (xo od a0) ∧ C.W.base.get? a = none ∧ ∀ p ∈ Z ++ (mu'.map (·.2) ++ fo), p.1 ≠ a := by
 obtain ⟨key, ob, m1, rfl, a0, rfl⟩ := X.hp a _ e
 have n0 := X.N (key, _) (List.mem_append_right _ (List.mem_append_left _ (List.mem_map_of_mem m1)))
 obtain ⟨pre, post, rfl⟩ := mut_split m1
 have nd := X.nd
 have e0 : (pre ++ (key, key, xo od a0) :: post).map (·.2) ++ fo = pre.map (·.2) ++ (key, xo od a0) :: (post.map (·.2) ++ fo) := by simp
 have N := X.N
 rw [e0] at nd N
 have e1 : (pre ++ post).map (·.2) ++ fo = pre.map (·.2) ++ (post.map (·.2) ++ fo) := by simp
 have pm : (List.map (·.1) (pre.map (·.2) ++ (key, xo od a0) :: (post.map (·.2) ++ fo))).Perm (key :: List.map (·.1) (pre.map (·.2) ++ (post.map (·.2) ++ fo))) := by
  rw [List.map_append, List.map_append, List.map_cons]; exact List.perm_middle
 obtain ⟨n1, n2⟩ := List.nodup_cons.mp (pm.nodup_iff.mp nd)
 have dj : ∀ p ∈ Z, p.1 ∉ key :: List.map (·.1) (pre.map (·.2) ++ (post.map (·.2) ++ fo)) := fun p hp q => by
  refine X.dj p hp ?_
  rw [e0]
  exact pm.mem_iff.mpr q
 refine ⟨pre ++ post, a0, ⟨X.F, fun p hp => N p ?_, ?_, fun p hp q => ?_, X.pr, fun b ob' eb => ?_⟩, n0.1, n0.2.2, fun p hp q => ?_⟩
 ·rw [e1] at hp
  rcases List.mem_append.mp hp with hp | hp
  ·exact List.mem_append_left _ hp
  ·rcases List.mem_append.mp hp with hp | hp
   ·exact List.mem_append_right _ (List.mem_append_left _ hp)
   ·exact List.mem_append_right _ (List.mem_append_right _ (.tail _ hp))
 ·rw [e1]; exact n2
 ·rw [e1] at q
  exact dj p hp (.tail _ q)
 ·unfold HP.del at eb
  by_cases q : b = key
  ·rw [if_pos q] at eb; cases eb
  ·rw [if_neg q] at eb
   obtain ⟨key', ob2, k1, k2⟩ := X.hp b ob' eb
   refine ⟨key', ob2, ?_, k2⟩
   rcases List.mem_append.mp k1 with k1 | k1
   ·exact List.mem_append_left _ k1
   ·rcases List.mem_cons.mp k1 with k1 | k1
    ·cases k1; exact absurd rfl q
    ·exact List.mem_append_right _ k1
 ·rw [e1] at hp
  rcases List.mem_append.mp hp with hp | hp
  ·exact dj p hp (by rw [q]; exact .head _)
  ·exact n1 (by rw [← q]; exact List.mem_map_of_mem hp)
theorem SX.raise_ {e : PySem.Expr} {pos : Pos} {k : Fl → Loc → HP → Prop} (h : SE C e (fun v lc hp => ∃ a od, v = .ref a ∧ hp a = some (.exc od) ∧ x (hp.del a)) x lc hp) : SX C (.Raise (some e) none pos) k x lc hp := by
 intro Z s Q E us ok R d nn y
 rw [arm_exec_Raise]
 refine wpAny_bind (wpAny_standAt ?_)
 unfold raiseStmt
 dsimp only [evalOpt, Option.map]
 refine wpAny_bind (wpAny_bind (h Z s _ _ us ok R d ?_ y))
 intro Z1 v u lc1 hp1 s1 z1 r1 R1 e1 h1
 refine wpAny_bind (wpAny_standAt (wpAny_pure ?_))
 obtain ⟨a, od, rfl, i, hx⟩ := h1
 obtain rfl : u = .ref a := r1
 obtain ⟨m, mu, fo, X, l⟩ := R1
 obtain ⟨mu', a0, X', g, gb, ni⟩ := X.remove i
 have KX := ok.wok.X.keeps X.F.keep
 have hC : s1.heap.get? 95 = some o95' := KX _ _ (k95 _)
 have fin : E (.ref a) s1 := y Z1 a _ s1 z1 ⟨m, mu', fo, X', xo od a0, _, a0, g, rfl, rfl, rfl, gb, ni, .inl rfl⟩ e1 hx
 have hcB : (Value.ref 95 :: mro95).contains (.type "BaseException") = true := by decide
 obtain ⟨hh, gg, dd, tk, os⟩ := s1
 repeat (first | with_reducible refine wpAny_loadPart_at g ?_ | with_reducible refine wpAny_loadPart_at hC ?_ | (with_reducible refine wpAny_isSubtype_exc hC ?_; rw [hcB]) | wp_step)
 exact wpAny_raiseNew_none ok.hand fin
end
end Mine
end
section
open PySem PySem.W PyProof.Rows PySem.Calls
namespace Mine
section
variable {C : Fm} {Z : Led} {hp : HP} {lc : Loc} {s : Shared} {x : HP → Prop} {E : Value → Shared → Prop}
theorem flight_excA {A1 : Around} (ok : FmOk C) {e : Addr} {m : Str → Option Value} {fl : Value} (x : ExcAt C Z hp e fl m s.heap) {Q : Unit → Shared → Prop}
  (hQ : ∀ h', ExcAt C Z hp e .none m h' → Q () { s with heap := h' }) : wpAny (model pw C.W.w) A1 (setFlight (.ref e) none) Q E s := by
 obtain ⟨mu, fo, X, oe, vs, a0, T, oT, ts, h1, h2, h3, h4, h5, h6, t1, t2, t3, t4, t5, t6, t7⟩ := x
 have b := exB_of (xs := [e, T]) ok X (.head _) (fun b hb => by
   rcases List.mem_cons.mp hb with rfl | hb
   ·exact ⟨h6, h5⟩
   ·rcases List.mem_singleton.mp hb with rfl; exact ⟨t3, t2⟩)
 have hT : (hideAll s.heap ([e, T] ++ framesOf C)).get? T = none := hideAll_none _ (List.mem_append_left _ (.tail _ (.head _)))
 refine wpAny_setFlight_noneW b.st b.ff ⟨oe, vs, T, oT, ts, h1, ⟨h2, h4⟩, h3, t1, hT, t4, t5, t6, t7⟩ fun h' k1 k2 k3 k4 => ?_
 obtain ⟨fo', X', _, r⟩ := exc_after ok X b h6 h5 k1 k3 (fun b o hb hn => ⟨o.slots, k4 b o hb hn⟩)
 exact hQ h' ⟨mu, fo', X', r⟩
theorem SX.tryR {body : List Stmt} {hn : Str} {np p1 p2 p3 pos : Pos} {sc : Scope} {b : Str} {bl : List Nat} {kk : Nat} {k : Fl → Loc → HP → Prop} (ht : C.top = true) (hs : C.env.scope = sc) (hl : sc.names.lookup hn = some .globalImplicit) (hd : (hn == ("__debug__" : Str)) = false)
  (hv : nsIn (K C.W.w.params) mainGlobals hn = some (some (r 95))) (eb : b.cps.toList = bl)
  (h : SXs C body (fun fl lc hp => match fl with | .next => False | f => k f lc hp) (fun hp' => k (.ret (.str bl)) [] hp') lc hp) :
  SX C (.Try body [.ExceptHandler (some (.Name hn np)) none [.Return (some (.Constant (.str b) kk p1)) p2] p3] [] [] pos) k x lc hp := by
 intro Z s Q E us ok R d nn y
 subst eb hs
 obtain ⟨outer, hfe⟩ := ok.htop ht
 have hce := ok.hcur ht
 refine wpAny_Try_except (h Z s _ _ us ok R d ?_ ?_)
 ·intro Z1 fl a lc1 hp1 s1 z1 r1 R1 e1 h1
  cases fl with
  | next => exact h1.elim
  | brk => cases r1; exact nn Z1 .brk _ _ _ s1 z1 rfl R1 e1 h1
  | cont => cases r1; exact nn Z1 .cont _ _ _ s1 z1 rfl R1 e1 h1
  | ret v => obtain ⟨u, rfl, du⟩ := r1; exact nn Z1 (.ret v) _ _ _ s1 z1 ⟨u, rfl, du⟩ R1 e1 h1
 ·intro Z1 e hp1 s1 z1 ex e1 h1
  refine note_exc ok hfe hce hce ex hce rfl fun m h2 ea2 => ?_
  refine flight_excA ok ea2 fun h3 ea3 => ?_
  obtain ⟨mu, fo, X, oe, vs, a0, T, oT, ts, q1, q2, rest⟩ := id ea3
  have KX := ok.wok.X.keeps X.F.keep
  have hC : h3.get? 95 = some o95' := KX _ _ (k95 _)
  refine wpAny_handleBy_cons (codeAny_handlers_test (Name_function_global ok.hk hl (loadGlobal_global (ok.hgl ▸ ok.wok.T.g.keeps X.F.keep) (mgE ok.wok hv) ?_) hd)) (by intro q; cases q)
  refine wpAny_excMatches_sub_self hC q1 q2 (by decide) (codeAny_handlers_suite ?_)
  refine flight_excA (s := { s1 with heap := h3 }) ok ea3 fun h4 ea4 => ?_
  obtain ⟨mu4, fo4, X4, _⟩ := ea4
  refine wpAny_execs_cons (wpAny_Return_some (Calls.Constant_str ?_))
  exact nn Z1 (.ret (.str _)) _ [] hp1 _ z1 ⟨_, rfl, _, rfl⟩ ⟨m, mu4, fo4, X4, fun x v e => by simp at e⟩ (e1.trans (Same.mk' s1 h4 _)) h1
end
end Mine
end
section
open PySem PySem.W PyProof.Rows PySem.Calls
namespace Mine
section
variable {C : Fm} {x : HP → Prop} {lc : Loc} {hp : HP}
theorem HP.le_refl (hp : HP) : HP.le hp hp := fun _ _ h => h
theorem HP.le_trans {a b c : HP} (h : HP.le a b) (h2 : HP.le b c) : HP.le a c := fun _ _ e => h2 _ _ (h _ _ e)
theorem Tri.out {α β : Type} {rel : Led → β → α → Prop} {vs : List V} {f : List Value → Sem α} {k : β → Loc → HP → Prop}
  (h : Tri C rel vs f (fun b lc2 hp2 => ∃ hp', HP.le hp' hp2 ∧ k b lc2 hp') (fun hp2 => ∃ hp', HP.le hp' hp2 ∧ x hp') lc hp) : Tri C rel vs f k x lc hp := by
 intro Z s Q E us ok R d nn y
 refine h Z s Q E us ok R d (fun Z' b a lc' hp' s' z r R' y' ⟨hp2, l, kk⟩ => nn Z' b a lc' hp2 s' z r (R'.weaken (fun _ _ e => e) l) y' kk) (fun Z' e hp' s' z ⟨m, mu, fo, X, o⟩ y' ⟨hp2, l, xx⟩ => ?_)
 exact y Z' e hp2 s' z ⟨m, mu, fo, ⟨X.F, X.N, X.nd, X.dj, X.pr, fun a ob q => X.hp a ob (l a ob q)⟩, o⟩ y' xx
theorem HP.del_set {hp : HP} {a : Addr} {o : O} (h : hp a = none) : (hp.set a o).del a = hp := by
 funext b
 unfold HP.del HP.set
 by_cases q : b = a
 ·rw [if_pos q, q, h]
 ·rw [if_neg q, if_neg q]
theorem HP.le_del_set {hp : HP} {a : Addr} {o : O} (h : hp a = none) : HP.le hp ((hp.set a o).del a) := by rw [HP.del_set h]; exact HP.le_refl _
theorem HP.le_set' {hp hp' : HP} {a : Addr} {o : O} (h : hp a = none) (l : HP.le hp hp') : HP.le hp (hp'.set a o) := fun b ob e => by
 unfold HP.set
 by_cases q : b = a
 ·rw [q, h] at e; cases e
 ·rw [if_neg q]; exact l b ob e
theorem HP.le_del {hp hp' : HP} {a : Addr} (h : hp a = none) (l : HP.le hp hp') : HP.le hp (hp'.del a) := fun b ob e => by
 unfold HP.del
 by_cases q : b = a
 ·rw [q, h] at e; cases e
 ·rw [if_neg q]; exact l b ob e
theorem Tri.outF {vs : List V} {f : List Value → Sem Value} {k : V → Loc → HP → Prop}
  (h : Tri C (den C.W) vs f (fun v lc2 hp2 => ∃ a o w hp', v = .ref a ∧ hp2 a = some o ∧ frz o = some w ∧ HP.le hp' (hp2.del a) ∧ k w lc2 hp') (fun hp2 => ∃ hp', HP.le hp' hp2 ∧ x hp') lc hp) : Tri C (den C.W) vs f k x lc hp := by
 intro Z s Q E us ok R d nn y
 refine h Z s Q E us ok R d (fun Z' b u lc' hp' s' z r R' y' ⟨a, o, w, hp2, hv, ho, hf, l, kk⟩ => ?_) (fun Z' e hp' s' z ⟨m, mu, fo, X, o⟩ y' ⟨hp2, l, xx⟩ => ?_)
 ·subst hv
  obtain rfl : u = .ref a := r
  obtain ⟨m, mu, fo, X, lo⟩ := R'
  obtain ⟨Z2, mu2, z2, dw, X2⟩ := X.freeze ho hf
  have R2 : Rel C Z2 lc' (hp'.del a) s'.heap := ⟨m, mu2, fo, X2, lo.mono z2⟩
  exact nn Z2 w _ lc' hp2 s' (fun _ q => z2 (z q)) dw (R2.weaken (fun _ _ e => e) l) y' kk
 ·exact y Z' e hp2 s' z ⟨m, mu, fo, ⟨X.F, X.N, X.nd, X.dj, X.pr, fun a ob q => X.hp a ob (l a ob q)⟩, o⟩ y' xx
end
end Mine
end
section
open PySem PySem.W PyProof.Rows
namespace Mine
noncomputable def PW {α : Type} (N : Nat) (lt : Nat → Nat → Bool) : KasT α → (α → Prop) → Prop
 | .ret a, Q => Q a
 | .ask i j k, Q => i < N ∧ j < N ∧ PW N lt (k (lt i j)) Q
theorem PW.bind {α β : Type} {N : Nat} {lt : Nat → Nat → Bool} {f : α → KasT β} {Q : β → Prop} : ∀ {t : KasT α}, PW N lt t (fun a => PW N lt (f a) Q) → PW N lt (t.bind f) Q
 | .ret _, h => h
 | .ask _ _ k, ⟨h1, h2, h3⟩ => ⟨h1, h2, PW.bind h3⟩
theorem PW.run {α : Type} {N : Nat} {lt : Nat → Nat → Bool} {Q : α → Prop} {cmp : Nat → Nat → (Bool → Shared → Prop) → Shared → Prop} {R : α → Shared → Prop} {I : Shared → Prop}
  (hc : ∀ i j C s, i < N → j < N → I s → (∀ s', I s' → C (lt i j) s') → cmp i j C s) (hq : ∀ a s, Q a → I s → R a s) : ∀ {t : KasT α}, PW N lt t Q → ∀ s, I s → t.kasWp cmp R s
 | .ret a, h, s, hi => hq a s h hi
 | .ask i j k, ⟨h1, h2, h3⟩, s, hi => hc i j _ s h1 h2 hi fun s' hi' => PW.run hc hq h3 s' hi'
noncomputable def gt (p : Array Nat) (k : Nat) : Nat := p.getD k 0
theorem gt_eq (p : Array Nat) (k : Nat) : gt p k = (p[k]?).getD 0 := by
 unfold gt
 rw [Array.getD_eq_getD_getElem?]
structure SOrd (lt : Nat → Nat → Bool) : Prop where
 irr : ∀ i, lt i i = false
 tr : ∀ i j k, lt i j = true → lt j k = true → lt i k = true
 nt : ∀ i j k, lt i k = true → lt i j = true ∨ lt j k = true
noncomputable def le (lt : Nat → Nat → Bool) (i j : Nat) : Prop := lt j i = false
noncomputable def Gd (N : Nat) (p : Array Nat) : Prop := p.toList.Perm (List.range N)
section
variable {N : Nat} {lt : Nat → Nat → Bool} (o : SOrd lt)
include o
theorem le_rfl' (i : Nat) : le lt i i := o.irr i
theorem le_tr {i j k : Nat} (h1 : le lt i j) (h2 : le lt j k) : le lt i k := by
 unfold le at *
 cases h : lt k i with
 | false => rfl
 | true => rcases o.nt k j i h with q | q <;> simp_all
theorem le_of_lt {i j : Nat} (h : lt i j = true) : le lt i j := by
 unfold le
 cases q : lt j i with
 | false => rfl
 | true => have := o.tr i j i h q; rw [o.irr] at this; exact this.symm
theorem lt_of_lt_le {i j k : Nat} (h : lt i j = true) (h2 : le lt j k) : lt i k = true := by
 unfold le at h2
 rcases o.nt i k j h with q | q
 ·exact q
 ·rw [h2] at q; cases q
end
section
variable {N : Nat}
theorem Gd.size {p : Array Nat} (h : Gd N p) : p.size = N := by have := h.length_eq; simpa using this
theorem Gd.lt {p : Array Nat} (h : Gd N p) {k : Nat} (hk : k < N) : gt p k < N := by
 have hs := h.size
 have : gt p k ∈ p.toList := by
  unfold gt
  rw [Array.getD, dif_pos (by exact ox0 hs hk)]
  simp
 have := h.mem_iff.mp this
 simpa using this
theorem Gd.rev {p : Array Nat} (h : Gd N p) (i j : Nat) : Gd N (kas_rev p i j) := (Array.perm_iff_toList_perm.mp (mirror_perm p i j _)).trans h
theorem Gd.bub {p : Array Nat} (h : Gd N p) (i j : Nat) : Gd N (bubble p i j) := (Array.perm_iff_toList_perm.mp (bubble_perm p i j)).trans h
theorem gt_rev {p : Array Nat} (h : Gd N p) {i j : Nat} (hj : j ≤ N) (k : Nat) : gt (kas_rev p i j) k = if i ≤ k ∧ k < j then gt p (i + j - 1 - k) else gt p k := by
 have e := getElem?_mirror_all (xs := p) (i := i) (j := j) (by rw [h.size]; exact hj) k
 rw [gt_eq]
 unfold kas_rev
 rw [e]
 split <;> rw [gt_eq]
theorem gt_bub {p : Array Nat} (h : Gd N p) {k l : Nat} (hk : k < N) (hl : l ≤ k) (i : Nat) : gt (bubble p k (k - l)) i = if i = l then gt p k else if l < i ∧ i ≤ k then gt p (i - 1) else gt p i := by
 have e := getElem?_bubble (xs := p) (src := k) (by rw [h.size]; exact hk) (k - l) (by exact oe5) i
 rw [gt_eq, e]
 have q : k - (k - l) = l := by exact op2 hl
 rw [q]
 split
 ·rw [gt_eq]
 ·split <;> rw [gt_eq]
theorem asc_ok {lt : Nat → Nat → Bool} {p : Array Nat} (h : Gd N p) {Q : Nat → Prop} : ∀ (f n : Nat), 1 ≤ n → n + f ≤ N →
  (∀ m, n ≤ m → m ≤ n + f → (∀ k, n ≤ k → k < m → le lt (gt p (k - 1)) (gt p k)) → (m = n + f ∨ lt (gt p m) (gt p (m - 1)) = true) → Q m) → PW N lt (kas_asc p f n) Q
 | 0, n, h1, h2, hq => hq n (Nat.le_refl _) (Nat.le_refl _) (fun k a b => absurd b (Nat.not_lt.mpr a)) (.inl rfl)
 | f + 1, n, h1, h2, hq => by
  refine ⟨h.lt (by exact og2 h2), h.lt (by exact ok0 h2), ?_⟩
  show PW N lt (if lt (gt p n) (gt p (n - 1)) = true then _ else _) Q
  split
  ·rename_i c
   exact hq n (Nat.le_refl _) (by exact oh4) (fun k a b => absurd b (Nat.not_lt.mpr a)) (.inr c)
  ·rename_i c
   refine asc_ok h f (n + 1) (by exact oi10) (by exact ob1 h2) fun m m1 m2 m3 m4 => hq m (by exact ot0 m1) (by exact oy0 m2) (fun k a b => ?_) (by rcases m4 with m4 | m4; exact .inl (by exact ox7 m4); exact .inr m4)
   by_cases q : k = n
   ·subst q; unfold le; simpa using c
   ·exact m3 k (by exact op9 q a) b
noncomputable def NI (lt : Nat → Nat → Bool) (p : Array Nat) (n : Nat) : Prop := ∀ k, 1 ≤ k → k < n → le lt (gt p k) (gt p (k - 1))
noncomputable def GR (lt : Nat → Nat → Bool) (p : Array Nat) (n q : Nat) : Prop := ∀ i j, n - (q + 1) ≤ i → i < n → n - (q + 1) ≤ j → j < n → le lt (gt p i) (gt p j)
noncomputable def AD (lt : Nat → Nat → Bool) (p : Array Nat) (n : Nat) : Prop := ∀ k, 1 ≤ k → k < n → le lt (gt p (k - 1)) (gt p k)
theorem rev_eqv {lt : Nat → Nat → Bool} (o : SOrd lt) {p : Array Nat} (h : Gd N p) {i n : Nat} (hn : n ≤ N) (g : ∀ a b, i ≤ a → a < n → i ≤ b → b < n → le lt (gt p a) (gt p b)) (k : Nat) :
  le lt (gt (kas_rev p i n) k) (gt p k) ∧ le lt (gt p k) (gt (kas_rev p i n) k) := by
 rw [gt_rev h hn]
 split
 ·rename_i c
  exact ⟨g _ _ (by exact or1 c) (by exact oo1 c) (by exact of8 c) (by exact om8 c), g _ _ (by exact of8 c) (by exact om8 c) (by exact or1 c) (by exact oo1 c)⟩
 ·exact ⟨le_rfl' o _, le_rfl' o _⟩
theorem desc_ok {lt : Nat → Nat → Bool} (o : SOrd lt) {Q : Array Nat × Nat × Nat → Prop} : ∀ (f : Nat) (p : Array Nat) (n q : Nat), Gd N p → q + 1 ≤ n → n + f ≤ N → NI lt p n → GR lt p n q →
  (∀ p' n' q', Gd N p' → q' + 1 ≤ n' → n ≤ n' → n' ≤ n + f → NI lt p' n' → GR lt p' n' q' → Q (p', n', q')) → PW N lt (kas_desc f p n q) Q
 | 0, p, n, q, h, h1, h2, ni, gr, hq => hq p n q h h1 (Nat.le_refl _) (Nat.le_refl _) ni gr
 | f + 1, p, n, q, h, h1, h2, ni, gr, hq => by
  refine ⟨h.lt (by exact og2 h2), h.lt (by exact ok0 h2), ?_⟩
  show PW N lt (if lt (gt p n) (gt p (n - 1)) = true then _ else _) Q
  split
  ·rename_i c
   have ni' : NI lt p (n + 1) := fun k a b => by
    by_cases e : k = n
    ·subst e; exact le_of_lt o c
    ·exact ni k a (by exact oe0 e b)
   split
   ·refine desc_ok o f _ (n + 1) 0 (h.rev _ _) (by exact oz2) (by exact ob1 h2) (fun k a b => ?_) (fun i j a b c d => ?_) fun p' n' q' a b c d => hq p' n' q' a b (by exact ot0 c) (by exact oy0 d)
    ·have e := fun k => rev_eqv o h (show n ≤ N by exact oo9 h2) gr k
     exact le_tr o (e k).1 (le_tr o (ni' k a b) (e (k - 1)).2)
    ·obtain rfl : i = j := by exact ot2 c d a b
     exact le_rfl' o _
   ·refine desc_ok o f _ (n + 1) 0 h (by exact oz2) (by exact ob1 h2) ni' (fun i j a b c d => ?_) fun p' n' q' a b c d => hq p' n' q' a b (by exact ot0 c) (by exact oy0 d)
    obtain rfl : i = j := by exact ot2 c d a b
    exact le_rfl' o _
  ·rename_i c
   refine ⟨h.lt (by exact ok0 h2), h.lt (by exact og2 h2), ?_⟩
   show PW N lt (if lt (gt p (n - 1)) (gt p n) = true then _ else _) Q
   split
   ·exact hq p n q h h1 (Nat.le_refl _) (by exact oh4) ni gr
   ·rename_i d
    have e1 : le lt (gt p (n - 1)) (gt p n) := by unfold le; simpa using c
    have e2 : le lt (gt p n) (gt p (n - 1)) := by unfold le; simpa using d
    refine desc_ok o f _ (n + 1) (q + 1) h (by exact og11 h1) (by exact ob1 h2) (fun k a b => ?_) (fun i j a b c d => ?_) fun p' n' q' a b c d => hq p' n' q' a b (by exact ot0 c) (by exact oy0 d)
    ·by_cases e : k = n
     ·subst e; exact e2
     ·exact ni k a (by exact oe0 e b)
    ·by_cases x : i = n
     ·by_cases y : j = n
      ·subst x y; exact le_rfl' o _
      ·subst x; exact le_tr o e2 (gr _ _ (by exact op0) (by exact op1 h1) (by exact oc0 c) (by exact oe0 y d))
     ·by_cases y : j = n
      ·subst y; exact le_tr o (gr _ _ (by exact oc0 a) (by exact oe0 x b) (by exact op0) (by exact op1 h1)) e1
      ·exact gr _ _ (by exact oc0 a) (by exact oe0 x b) (by exact oc0 c) (by exact oe0 y d)
theorem tail3_ok {lt : Nat → Nat → Bool} {Q : Nat × Array Nat → Prop} {p : Array Nat} {n : Nat} (h : Gd N p) (h1 : 1 ≤ n) (h2 : n ≤ N) (ni : NI lt p n)
  (hq : ∀ m p', Gd N p' → 1 ≤ m → m ≤ N → AD lt p' m → Q (m, p')) : PW N lt (kas_tail3 n N p) Q := by
 unfold kas_tail3
 refine PW.bind (asc_ok (h.rev 0 n) (N - n) n h1 (by exact ol8 h2) fun m m1 m2 m3 _ => hq m _ (h.rev 0 n) (by exact ob11 h1 m1) (by exact os5 h2 m2) fun k a b => ?_)
 by_cases q : k < n
 ·rw [gt_rev h h2, gt_rev h h2, if_pos (by exact ow5 q), if_pos (by exact og9 q)]
  have := ni (n - k) (by exact ou4 q) (by exact or6 a q)
  rw [show 0 + n - 1 - (k - 1) = n - k by exact ou0 a, show 0 + n - 1 - k = n - k - 1 by exact og1]
  exact this
 ·exact m3 k (by exact ol12 q) b
theorem descPart_ok {lt : Nat → Nat → Bool} (o : SOrd lt) {Q : Nat × Array Nat → Prop} {p : Array Nat} {n : Nat} (h : Gd N p) (h2 : n + 1 ≤ N) (ni : NI lt p (n + 1))
  (hq : ∀ m p', Gd N p' → 1 ≤ m → m ≤ N → AD lt p' m → Q (m, p')) : PW N lt (kas_descPart n N p) Q := by
 unfold kas_descPart
 refine PW.bind (desc_ok o _ p (n + 1) 0 h (by exact oz2) (by exact oh9 h2) ni (fun i j a b c d => ?_) fun p' n' q' a b c d e f => ?_)
 ·obtain rfl : i = j := by exact ot8 d c b a
  exact le_rfl' o _
 ·dsimp only
  split
  ·refine tail3_ok (a.rev _ _) (by exact ou2 b) (by exact od1 d h2) (fun k x y => ?_) hq
   have z := fun k => rev_eqv o a (show n' ≤ N by exact od1 d h2) f k
   exact le_tr o (z k).1 (le_tr o (e k x y) (z (k - 1)).2)
  ·exact tail3_ok a (by exact ou2 b) (by exact od1 d h2) e hq
theorem AD.le {lt : Nat → Nat → Bool} (o : SOrd lt) {p : Array Nat} {n : Nat} (h : AD lt p n) : ∀ (d i : Nat), i + d < n → le lt (gt p i) (gt p (i + d))
 | 0, i, _ => le_rfl' o _
 | d + 1, i, hd => le_tr o (AD.le o h d i (by exact oo10 hd)) (by have := h (i + d + 1) (by exact ox9) (by exact oh10 hd); exact this)
theorem count_ok {lt : Nat → Nat → Bool} (o : SOrd lt) {Q : Nat × Array Nat → Prop} {p : Array Nat} (h : Gd N p) (h1 : 1 ≤ N)
  (hq : ∀ m p', Gd N p' → 1 ≤ m → m ≤ N → AD lt p' m → Q (m, p')) : PW N lt (kas_count N p) Q := by
 unfold kas_count
 refine PW.bind (asc_ok h (N - 1) 1 (by omega) (by exact oj8 h1) fun m m1 m2 m3 m4 => ?_)
 have ad : AD lt p m := m3
 split
 ·exact hq m p h m1 (by exact oo0 h1 m2) ad
 ·rename_i ne
  have ne' : m ≠ N := by simpa using ne
  have lts : lt (gt p m) (gt p (m - 1)) = true := by
   rcases m4 with m4 | m4
   ·omega
   ·exact m4
  split
  ·refine ⟨h.lt (by exact oz13 h1), h.lt (by omega), ?_⟩
   show PW N lt (if lt (gt p 0) (gt p (m - 1)) = true then _ else _) Q
   split
   ·exact hq m p h m1 (by exact oo0 h1 m2) ad
   ·rename_i c
    have c' : le lt (gt p (m - 1)) (gt p 0) := by unfold le; simpa using c
    have all : ∀ a b, 0 ≤ a → a < m → 0 ≤ b → b < m → le lt (gt p a) (gt p b) := fun a b _ ha _ hb => by
     have e1 := AD.le o ad (m - 1 - a) a (by exact oj6 ha)
     have e2 := AD.le o ad b 0 (by exact oy10 hb)
     rw [show a + (m - 1 - a) = m - 1 by exact oe1 ha] at e1
     rw [Nat.zero_add] at e2
     exact le_tr o e1 (le_tr o c' e2)
    refine descPart_ok o (h.rev _ _) (by exact oa6 ne' h1 m2) (fun k x y => ?_) hq
    have z := fun k => rev_eqv o h (show m ≤ N by exact oo0 h1 m2) all k
    refine le_tr o (z k).1 (le_tr o ?_ (z (k - 1)).2)
    by_cases q : k = m
    ·subst q; exact le_of_lt o lts
    ·exact all _ _ (by exact om2) (by exact oe0 q y) (by exact of12) (by exact oz7 y x)
  ·obtain rfl : m = 1 := by omega
   refine descPart_ok o h (by exact of10 ne' h1) (fun k x y => ?_) hq
   obtain rfl : k = 1 := by exact oy9 y x
   exact le_of_lt o lts
noncomputable def SR (lt : Nat → Nat → Bool) (p : Array Nat) (n : Nat) : Prop := ∀ i j, i ≤ j → j < n → le lt (gt p i) (gt p j)
theorem place_ok {lt : Nat → Nat → Bool} (o : SOrd lt) {Q : Nat → Prop} {p : Array Nat} (h : Gd N p) {k : Nat} (hk : k < N) (sr : SR lt p k)
  (hq : ∀ l, l ≤ k → (∀ i, i < l → le lt (gt p i) (gt p k)) → (∀ i, l ≤ i → i < k → lt (gt p k) (gt p i) = true) → Q l) : ∀ (f l r : Nat), r - l ≤ f → l ≤ r → r ≤ k →
  (∀ i, i < l → le lt (gt p i) (gt p k)) → (∀ i, r ≤ i → i < k → lt (gt p k) (gt p i) = true) → PW N lt (kas_place p k f l r) Q
 | 0, l, r, h1, h2, h3, a, b => by
  obtain rfl : l = r := by exact og6 h1 h2
  exact hq l h3 a b
 | f + 1, l, r, h1, h2, h3, a, b => by
  unfold kas_place
  split
  ·obtain rfl : l = r := by omega
   exact hq l h3 a b
  ·rename_i c
   have hm : (l + r) / 2 < r := by exact oi4 c
   have hm2 : l ≤ (l + r) / 2 := by exact ob4 c
   refine ⟨h.lt hk, h.lt (by exact ov10 h3 hk hm), ?_⟩
   show PW N lt (if lt (gt p k) (gt p ((l + r) / 2)) = true then _ else _) Q
   split
   ·rename_i d
    exact place_ok o h hk sr hq f l ((l + r) / 2) (by exact on1 h1) (by exact om12 hm2) (by exact oc11 h3 hm) a fun i x y => lt_of_lt_le o d (sr _ _ x y)
   ·rename_i d
    have d' : le lt (gt p ((l + r) / 2)) (gt p k) := by unfold le; simpa using d
    exact place_ok o h hk sr hq f ((l + r) / 2 + 1) r (by exact os1 h1) (by exact ok11 hm) h3 (fun i x => le_tr o (sr i _ (by exact oh11 x) (by exact os11 h3 hm)) d') b
theorem bin_ok {lt : Nat → Nat → Bool} (o : SOrd lt) {Q : Array Nat → Prop} (hq : ∀ p, Gd N p → SR lt p N → Q p) : ∀ (f : Nat) (p : Array Nat) (k : Nat), Gd N p → SR lt p k → k + f = N → PW N lt (kas_bin f p k) Q
 | 0, p, k, h, sr, e => by
  obtain rfl : k = N := by exact ol9 e
  exact hq p h sr
 | f + 1, p, k, h, sr, e => by
  unfold kas_bin
  refine PW.bind (place_ok o h (by exact oe2 e) sr (fun l l1 l2 l3 => ?_) k 0 k (by exact oh3) (by exact om2) (by exact ow13) (fun i x => by omega) (fun i x y => by omega))
  refine bin_ok o hq f _ (k + 1) (h.bub _ _) (fun i j x y => ?_) (by exact oc8 e)
  rw [gt_bub h (by exact oe2 e) l1, gt_bub h (by exact oe2 e) l1]
  by_cases i1 : i = l
  ·rw [if_pos i1]
   by_cases j1 : j = l
   ·rw [if_pos j1]; exact le_rfl' o _
   ·rw [if_neg j1, if_pos (by exact of6 j1 i1 x y)]
    exact le_of_lt o (l3 _ (by exact on4 j1 i1 x) (by exact oj4 y j1 x i1))
  ·rw [if_neg i1]
   by_cases i2 : l < i ∧ i ≤ k
   ·rw [if_pos i2, if_neg (by exact or12 x i2), if_pos (by exact or7 i2 x y)]
    exact sr _ _ (by exact ol2 x) (by exact oc4 y i2)
   ·rw [if_neg i2]
    by_cases j1 : j = l
    ·rw [if_pos j1]; exact l2 _ (by exact oq3 i1 j1 x)
    ·rw [if_neg j1]
     by_cases j2 : l < j ∧ j ≤ k
     ·rw [if_pos j2]; exact sr _ _ (by exact oo3 j2 i2 x) (by exact ok3 j2)
     ·rw [if_neg j2]; exact sr _ _ (by exact oi6 x) (by exact ou6 j2 j1 y l1)
theorem sort_ok {lt : Nat → Nat → Bool} (o : SOrd lt) {Q : Array Nat → Prop} (h1 : 1 ≤ N) (hq : ∀ p, Gd N p → SR lt p N → Q p) : PW N lt (kas_sort N) Q := by
 unfold kas_sort
 refine PW.bind (count_ok o (show Gd N (List.range N).toArray by unfold Gd; simp) h1 fun m p' g m1 m2 ad => ?_)
 have sr : SR lt p' m := fun i j x y => by
  have := AD.le o ad (j - i) i (by exact oo7 y x)
  rwa [show i + (j - i) = j by exact op5 x] at this
 dsimp only
 split
 ·exact bin_ok o hq _ _ _ g (by rw [show max m 1 = m by exact ol4 m1]; exact sr) (by omega)
 ·obtain rfl : m = N := by omega
  exact hq p' g sr
end
end Mine
end
section
open PySem PySem.W PyProof.Rows PySem.Calls
namespace Mine
section
variable {w : World} {A : Around} {E : Value → Shared → Prop} {s : Shared}
theorem lsort_short {a : Addr} {vs : List Value} {n : Nat} {P : PySem.Fin → Shared → Prop} (ho : s.heap.get? a = some (seqObj "list" vs.toArray n)) (h2 : vs.length < 2)
  (h : P (.done (.ret .none)) { s with heap := sortedHeap s.heap a vs vs.toArray }) : wpAny (model pw w) A (Builtin.«list.sort» ⟨[.ref a], []⟩) P E s := by
 rw [list_sort_plain]
 have ha : a < s.heap.objs.size := Heap.lt_size ho
 refine wpAny_bind (listItems_at ho rfl ?_)
 refine wpAny_bind (listUpdate_at ho rfl ?_)
 obtain ⟨e1, ho1⟩ : ∃ e1, (s.heap.update a (Obj.mapSeq fun _ => #[])).get? a = some (seqObj "list" #[] e1) := ⟨_, get?_update_seq ho (fun _ => #[])⟩
 refine wpAny_bind (seqEpoch_at ho1 rfl ?_)
 refine wpAny_bind (wpAny_newTuple ?_ (by show vs.length ≤ _; rw [sizeLine_eq]; exact og3 h2))
 refine wpAny_bind (wpAny_newList ?_)
 refine wpAny_holding ?_
 have ho6 : (((s.heap.update a (Obj.mapSeq fun _ => #[])).push (seqObj "tuple" vs.toArray 0)).push (seqObj "list" #[] 0)).get? a = some (seqObj "list" #[] e1) := by
  rw [Heap.get?_push_ne _ _ _ (by rw [size_push', Heap.size_update]; exact Nat.ne_of_lt (Nat.lt_succ_of_lt ha)), Heap.get?_push_ne _ _ _ (by rw [Heap.size_update]; exact Nat.ne_of_lt ha)]
  exact ho1
 show wpAny (model pw w) A _ P E { s with heap := ((s.heap.update a (Obj.mapSeq fun _ => #[])).push (seqObj "tuple" vs.toArray 0)).push (seqObj "list" #[] 0) }
 dsimp only
 have h2' : vs.toArray.size < 2 := by simpa using h2
 have e : (vs.toArray.zip vs.toArray).map (·.2) = vs.toArray := by
  apply Array.toList_inj.mp
  simp [List.map_snd_zip]
 rw [if_pos h2', if_pos h2']
 refine wpAny_bind (wpAny_pure ?_)
 rw [StateT.run_pure]
 refine wpAny_bind (wpAny_pure ?_)
 dsimp only
 have e2 : Array.map (fun x => x.snd) (arrOf (SortSt.mk' general' (vs.toArray.zip vs.toArray) #[] 7 none)) = vs.toArray := e
 rw [e2]
 refine wpAny_bind (seqEpoch_at ho6 rfl ?_)
 refine wpAny_bind (listUpdate_at ho6 rfl ?_ (hsz2 := by rw [sizeLine_eq]; exact oh12 h2'))
 simp only [bne_self_eq_false, Bool.false_eq_true, if_false]
 exact wpAny_pure h
theorem sorted_short {l : Addr} {vs : List Value} {Q : Value → Shared → Prop} (hl : s.heap.IsList l vs.toArray) (h2 : vs.length < 2)
  (h : Q (.ref (s.heap.objs.size + 1)) { s with heap := sortedAll s.heap vs vs.toArray }) : wpAny (model pw w) A (call (.builtin "sorted") [.ref l]) Q E s := by
 refine Calls.call_function_entry kind_sorted plain_sorted entry_sorted (args_sorted1 _) ?_
 unfold Builtin.«sorted»
 refine wpAny_bind (m := checkCount "sorted" 1 1 _) (wpAny_pure ?_)
 refine wpAny_bind (collect_list hl ?_ (by rw [sizeLine_eq]; exact og3 h2))
 refine wpAny_bind (wpAny_newList ?_ (by rw [sizeLine_eq]; exact og3 h2))
 have hsz : ((s.heap.push (seqObj "list" #[] 0)).update s.heap.objs.size (Obj.mapSeq (· ++ vs.toArray))).objs.size = s.heap.objs.size + 1 := by
  rw [Heap.size_update, size_push']
 have hoL : (((s.heap.push (seqObj "list" #[] 0)).update s.heap.objs.size (Obj.mapSeq (· ++ vs.toArray))).push (seqObj "list" vs.toArray 0)).get? (s.heap.objs.size + 1) = some (seqObj "list" vs.toArray 0) := by
  rw [← hsz]; exact Heap.get?_push_size _ rfl
 show wpAny _ _ _ _ _ { s with heap := ((s.heap.push (seqObj "list" #[] 0)).update s.heap.objs.size (Obj.mapSeq (· ++ vs.toArray))).push (seqObj "list" vs.toArray 0) }
 rw [hsz]
 refine wpAny_bind (wpAny_holding (wpAny_call_entry slot_list_sort ⟨_, hoL, rfl⟩ entry_list_sort (lsort_short hoL h2 ⟨_, rfl, ?_⟩) (args_list_sort _)))
 exact wpAny_pure ⟨_, rfl, h⟩
end
noncomputable def prV (p : Int × Int) : V := .tup [.int p.1, .int p.2]
noncomputable def ltP (a b : Int × Int) : Bool := decide (a.1 < b.1) || (decide (a.1 = b.1) && decide (a.2 < b.2))
theorem denL_map {α : Type} {W : Wd} {Z : Led} {f : α → V} {g : α → Value} : ∀ {l : List α}, (∀ a ∈ l, den W Z (f a) (g a)) → denL W Z (l.map f) (l.map g)
 | [], _ => rfl
 | a :: r, h => ⟨_, _, rfl, h a (.head _), denL_map fun b hb => h b (.tail _ hb)⟩
theorem denL_mapV {α : Type} {W : Wd} {Z : Led} {f : α → V} {vs : List Value} {l : List α} (d : denL W Z (l.map f) vs) {i : Nat} {a : α} (e : l[i]? = some a) : ∃ u, vs[i]? = some u ∧ den W Z (f a) u :=
 denL_get d i (f a) (by rw [List.getElem?_map, e]; rfl)
theorem sord_ltP (ps : List (Int × Int)) : SOrd fun i j => ltP (ps.getD i (0, 0)) (ps.getD j (0, 0)) := by
 constructor
 ·intro i; simp [ltP]
 ·intro i j k; simp only [ltP, Bool.or_eq_true, Bool.and_eq_true, decide_eq_true_eq]; omega
 ·intro i j k; simp only [ltP, Bool.or_eq_true, Bool.and_eq_true, decide_eq_true_eq]; omega
theorem perm_pick {α : Type} (d : α) (ps : List α) {p : List Nat} (h : p.Perm (List.range ps.length)) : (p.map fun i => ps.getD i d).Perm ps := by
 have e : ((List.range ps.length).map fun i => ps.getD i d) = ps := by
  apply List.ext_getElem
  ·simp
  ·intro i h1 h2; simp [List.getD_eq_getElem?_getD, h2]
 have := h.map fun i => ps.getD i d
 rwa [e] at this
theorem sorted_pick {α : Type} (d : α) (ps : List α) (lt : α → α → Bool) {p : Array Nat} (h : Gd ps.length p) (sr : SR (fun i j => lt (ps.getD i d) (ps.getD j d)) p ps.length) : (p.toList.map fun i => ps.getD i d).Pairwise fun a b => lt b a = false := by
 rw [List.pairwise_iff_getElem]
 intro i j hi hj hij
 have hs := h.size
 simp only [List.length_map, Array.length_toList] at hi hj
 have := sr i j (Nat.le_of_lt hij) (by exact oh0 hs hj)
 unfold le gt at this
 simp only [List.getElem_map, Array.getElem_toList]
 simpa [Array.getD, hi, hj] using this
section
variable {C : Fm} {x : HP → Prop} {lc : Loc} {hp : HP} {k : V → Loc → HP → Prop}
theorem tup2_at {Z : Led} {h : Heap} {m : Str → Option Value} {mu : Mut} {fo : Led} (X : RelX C Z hp h m mu fo) {u : Value} {p : Int × Int} (d : den C.W Z (prV p) u) :
  ∃ a o n t t', u = .ref a ∧ h.get? a = some o ∧ o.cls = .type "tuple" ∧ o.data = .seq #[.int p.1 t, .int p.2 t'] n := by
 obtain ⟨a, o, vs, n, rfl, H, c, dd, D⟩ := (by simpa only [prV, den] using d : SqD C.W Z "tuple" (denL C.W Z [.int p.1, .int p.2]) u)
 obtain ⟨u1, u2, e, ⟨t, rfl⟩, ⟨t', rfl⟩⟩ := den2 D
 refine ⟨a, o, n, t, t', rfl, X.has H, c, ?_⟩
 rw [dd]
 congr 1
 exact Array.toList_inj.mp e
theorem katTups_of {Z : Led} {h : Heap} {m : Str → Option Value} {mu : Mut} {fo : Led} (X : RelX C Z hp h m mu fo) : ∀ {ps : List (Int × Int)} {us : List Value}, denL C.W Z (ps.map prV) us → ∃ fs, KatTups h us fs ∧ fs.length = ps.length ∧ ∀ v ∈ fs, ∃ i t, v = .int i t
 | [], us, d => by
  simp only [List.map_nil, denL] at d
  subst d
  exact ⟨[], .nil, rfl, fun _ h => nomatch h⟩
 | p :: r, us, d => by
  simp only [List.map_cons, denL] at d
  obtain ⟨u, us', rfl, d1, D⟩ := d
  obtain ⟨a, o, n, t, t', rfl, g, c, dd⟩ := tup2_at X d1
  obtain ⟨fs, K, l, q⟩ := katTups_of X D
  refine ⟨.int p.1 t :: fs, KatTups.cons g c dd rfl K, by simp [l], fun v hv => ?_⟩
  rcases List.mem_cons.mp hv with rfl | hv
  ·exact ⟨_, _, rfl⟩
  ·exact q v hv
theorem OpCall.sortedP {v : V} {ps : List (Int × Int)} (il : IsLst hp v (ps.map prV)) (hz : ps.length < 64) (h : ∀ qs : List (Int × Int), qs.Perm ps → qs.Pairwise (fun a b => ltP b a = false) → k (.lst (qs.map prV)) lc hp) :
  OpCall C (.raw (.builtin "sorted")) [v] k x lc hp := by
 intro Z s Q E us ok R d nn y
 obtain ⟨_, u, rfl, rfl, du⟩ := den2 d
 obtain ⟨m, mu, fo, X, lo⟩ := R
 obtain ⟨a, items, rfl, L, D⟩ := lst_at X il du
 have hlen : items.toList.length = ps.length := by rw [denL_length D, List.length_map]
 have L' : s.heap.IsList a items.toList.toArray := by rw [Array.toArray_toList]; exact L
 by_cases h2 : items.toList.length < 2
 ·refine sorted_short L' h2 ?_
  obtain ⟨e, he⟩ := sortedAll_at s.heap items.toList items.toList.toArray
  have X1 := X.keeps (h' := sortedAll s.heap items.toList items.toList.toArray) fun b o q => sortedAll_old q
  have N2 := X.N.kept_cons X.F (fun b o q => sortedAll_old q) (Nat.le_succ _) he
  have X2 := X.grow (X.F.kept fun b o q => sortedAll_old q) N2 (X.ne_of_le (Nat.le_succ _))
  refine nn _ (.lst (ps.map prV)) _ lc hp _ (fun _ q => .tail _ q) ?_ ⟨m, mu, fo, X2, lo.mono fun _ q => .tail _ q⟩ (Same.mk' s _ s.toks) (h ps (List.Perm.refl _) ?_)
  ·simp only [den]
   exact ⟨_, _, _, _, rfl, .inr (.head _), rfl, rfl, (by simpa using D : denL C.W Z _ items.toList.toArray.toList).mono fun _ q => .tail _ q⟩
  ·match ps, hlen with
   | [], _ => exact .nil
   | [p], _ => exact List.pairwise_singleton _ _
   | _ :: _ :: _, q => rw [q] at h2; exact absurd h2 (by simp only [List.length_cons]; exact od10)
 ·refine kat_sorted X.F X.N L' (by exact ov6 h2) (by exact ob2 hlen hz) fun Da e1 h' F' N' hlt => ?_
  have X1 : RelX C Z hp h' m mu fo := ⟨F', fun p hp => N' p (.tail _ hp), X.nd, X.dj, X.pr, X.hp⟩
  obtain ⟨fs, K, l, qi⟩ := katTups_of X1 D
  refine kat_kind (s := { s with heap := h' }) (T := .type "int") K (by exact of9 hlen l h2) (fun v hv => ?_) rfl ?_
  ·obtain ⟨i, t, rfl⟩ := qi v hv
   exact .now
  refine PW.run (N := items.toList.length) (lt := fun i j => ltP (ps.getD i (0, 0)) (ps.getD j (0, 0))) (I := fun s' => s' = { s with heap := h' }) (Q := fun p => Gd items.toList.length p ∧ SR (fun i j => ltP (ps.getD i (0, 0)) (ps.getD j (0, 0))) p items.toList.length) (fun i j Cc s' hi hj e hc => ?_) (fun p s' ⟨g, sr⟩ e => ?_) (sort_ok (sord_ltP ps) (by exact ox4 h2) fun p g sr => ⟨g, sr⟩) _ rfl
  ·subst e
   rw [hlen] at hi hj
   obtain ⟨u1, e1, d1⟩ := denL_mapV D (List.getElem?_eq_getElem hi)
   obtain ⟨u2, e2, d2⟩ := denL_mapV D (List.getElem?_eq_getElem hj)
   unfold kas_ask
   rw [List.getD_eq_getElem?_getD, List.getD_eq_getElem?_getD, e1, e2]
   simp only [Option.getD_some]
   obtain ⟨a1, o1, n1, t1, t1', rfl, g1, c1, dd1⟩ := tup2_at X1 d1
   obtain ⟨a2, o2, n2, t2, t2', rfl, g2, c2, dd2⟩ := tup2_at X1 d2
   have hc' := hc _ rfl
   rw [List.getD_eq_getElem?_getD, List.getD_eq_getElem?_getD, List.getElem?_eq_getElem hi, List.getElem?_eq_getElem hj] at hc'
   simp only [Option.getD_some] at hc'
   generalize ps[i] = p1 at *
   generalize ps[j] = p2 at *
   refine kat_lt (s := { s with heap := h' }) g1 dd1 g2 dd2 ?_
   show KatLex pw C.W.w C.A.in1.in1 (Value.type "int" != Value.type "tuple") _ _ [(.int p1.1 t1, .int p2.1 t2), (.int p1.2 t1', .int p2.2 t2')] 0 _
   refine kat_cons (wpAny_eqBool_int (kat_go (fun q => ?_) fun q => ?_))
   ·have q' : p1.1 = p2.1 := by simpa using q
    refine kat_yes (kat_cons (wpAny_eqBool_int (kat_go (fun r => ?_) fun r => ?_)))
    ·have r' : p1.2 = p2.2 := by simpa using r
     refine kat_yes (kat_nil ?_)
     have : ltP p1 p2 = false := by simp [ltP, q', r']
     rw [this] at hc'
     exact hc'
    ·refine kat_no (kat_one _ _ (lt_int ?_))
     have : ltP p1 p2 = decide (p1.2 < p2.2) := by simp [ltP, q']
     rw [this] at hc'
     exact hc'
   ·have q' : p1.1 ≠ p2.1 := by simpa using q
    refine kat_no ?_
    show wpAny _ _ (oneLt' true _ _) _ _ _
    refine oneLt_int ?_
    have : ltP p1 p2 = decide (p1.1 < p2.1) := by simp [ltP, q']
    rw [this] at hc'
    exact hc'
  ·subst e
   refine KasFin.intro F' N' (.head fun p hp => Nat.ne_of_lt (hlt p hp)) fun h'' c F'' N'' => ?_
   have X2 := X1.grow F'' N'' fun p hp => Nat.ne_of_lt (hlt p (List.mem_append_right _ hp))
   rw [hlen] at g sr
   refine nn _ (.lst ((p.toList.map fun i => ps.getD i (0, 0)).map prV)) _ lc hp _ (fun _ q => .tail _ q) ?_ ⟨m, mu, fo, X2, lo.mono fun _ q => .tail _ q⟩ (Same.mk' s _ s.toks) (h _ (perm_pick _ ps g) (sorted_pick _ ps ltP g sr))
   simp only [den]
   refine ⟨_, _, _, _, rfl, .inr (.head _), rfl, rfl, ?_⟩
   rw [List.map_map]
   refine denL_map fun i hi => ?_
   have hi' : i < ps.length := by simpa using g.mem_iff.mp hi
   obtain ⟨u1, e1, d1⟩ := denL_mapV D (List.getElem?_eq_getElem hi')
   rw [List.getD_eq_getElem?_getD, e1]
   show den _ _ (prV (ps.getD i (0, 0))) u1
   rw [List.getD_eq_getElem?_getD, List.getElem?_eq_getElem hi']
   exact d1.mono fun _ q => .tail _ q
end
end Mine
end
section
open PySem PySem.W PyProof.Rows PySem.Calls
namespace Mine
noncomputable def kS (l : List Nat) : Str := ⟨l.toArray⟩
theorem kS_inj {a b : List Nat} (h : kS a = kS b) : a = b := by
 unfold kS at h
 injection h with h
 simpa using h
noncomputable def kvOf (ks : List (List Nat)) (us : List Value) : List (Str × Value) := (ks.map kS).zip us
theorem denD_len {W : Wd} {Z : Led} : ∀ {ks : List (List Nat)} {xs : List V} {es : List DictEntry}, denD W Z ks xs es → ks.length = xs.length
 | ks, [], es, d => by
  simp only [denD] at d
  rw [d.1]; rfl
 | ks, x :: r, es, d => by
  simp only [denD] at d
  obtain ⟨k, ks', t, v, es', rfl, rfl, d1, D⟩ := d
  simp [denD_len D]
theorem denD_pairs {W : Wd} {Z : Led} : ∀ {ks : List (List Nat)} {xs : List V} {es : List DictEntry}, denD W Z ks xs es → ∃ us, denL W Z xs us ∧ Pairs (strKind pw W.w) es (kvOf ks us) ∧ (∀ e ∈ es, ∃ k, (strKind pw W.w).is k e.key = true ∧ e.hash = (strKind pw W.w).hash k)
 | ks, [], es, d => by
  simp only [denD] at d
  obtain ⟨rfl, rfl⟩ := d
  exact ⟨[], rfl, .nil, fun _ h => nomatch h⟩
 | ks, x :: r, es, d => by
  simp only [denD] at d
  obtain ⟨k, ks', t, v, es', rfl, rfl, d1, D⟩ := d
  obtain ⟨us, D2, P, H⟩ := denD_pairs D
  refine ⟨v :: us, ⟨v, us, rfl, d1, D2⟩, .cons (strKind_is ..) rfl P, fun e he => ?_⟩
  rcases List.mem_cons.mp he with rfl | he
  ·exact ⟨kS k, strKind_is .., rfl⟩
  ·exact H e he
theorem denD_of {W : Wd} {Z : Led} : ∀ {ks : List (List Nat)} {xs : List V} {es : List DictEntry} {us : List Value}, ks.length = xs.length → denL W Z xs us → Pairs (strKind pw W.w) es (kvOf ks us) → (∀ e ∈ es, ∃ k, (strKind pw W.w).is k e.key = true ∧ e.hash = (strKind pw W.w).hash k) → denD W Z ks xs es
 | [], [], es, us, _, d, P, _ => by
  simp only [denL] at d
  subst d
  cases P
  exact ⟨rfl, rfl⟩
 | k :: ks, x :: r, es, us, e, d, P, H => by
  simp only [denL] at d
  obtain ⟨v, us', rfl, d1, D⟩ := d
  unfold kvOf at P
  rw [List.map_cons, List.zip_cons_cons] at P
  cases P with
  | cons h1 h2 h3 =>
   rename_i en es'
   obtain ⟨hh, key, vv⟩ := en
   obtain rfl : vv = v := h2
   obtain ⟨t, rfl⟩ := Value.isStrOf_shape h1
   obtain ⟨k2, q1, q2⟩ := H _ (.head _)
   obtain rfl : k2 = kS k := (strKind pw W.w).inj _ _ _ q1 h1
   have q2' : hh = _ := q2
   subst q2'
   exact ⟨k, ks, t, vv, es', rfl, rfl, d1, denD_of (by simpa using e) D h3 fun e he => H e (.tail _ he)⟩
 | [], _ :: _, _, _, e, _, _, _ => by simp at e
 | _ :: _, [], _, _, e, _, _, _ => by simp at e
theorem kv_keys {ks : List (List Nat)} {us : List Value} (h : ks.length = us.length) : (kvOf ks us).map (·.1) = ks.map kS := by
 unfold kvOf
 exact List.map_fst_zip (by simp [h])
theorem nodup_kS {ks : List (List Nat)} (h : ks.Nodup) : (ks.map kS).Nodup := by
 induction ks with
 | nil => exact .nil
 | cons k r ih =>
  obtain ⟨a, b⟩ := List.nodup_cons.mp h
  rw [List.map_cons]
  refine List.nodup_cons.mpr ⟨fun m => ?_, ih b⟩
  obtain ⟨k', m1, m2⟩ := List.mem_map.mp m
  exact a (kS_inj m2 ▸ m1)
theorem isDictOf {W : Wd} {Z : Led} {ks : List (List Nat)} {xs : List V} {es : List DictEntry} {n : Nat} (d : denD W Z ks xs es) (hn : ks.Nodup) : ∃ us, denL W Z xs us ∧ (dictOf es n).IsDictOf (strKind pw W.w) (kvOf ks us) := by
 obtain ⟨us, D, P, H⟩ := denD_pairs d
 have hl : ks.length = us.length := by rw [denD_len d, denL_length D]
 exact ⟨us, D, es.toArray, n, ⟨rfl, rfl, rfl⟩, rfl, fun e he => H e (by simpa using he), by simpa using P, by rw [kv_keys hl]; exact nodup_kS hn⟩
theorem of_isDictOf {W : Wd} {Z : Led} {ks : List (List Nat)} {xs : List V} {us : List Value} {o : Obj} (d : o.IsDictOf (strKind pw W.w) (kvOf ks us)) (hl : ks.length = xs.length) (D : denL W Z xs us) : ∃ es n, o = dictOf es n ∧ denD W Z ks xs es := by
 obtain ⟨es, ep, ⟨c1, c2, c3⟩, dd, K, P, _⟩ := d
 obtain ⟨oc, od, da, sl⟩ := o
 obtain rfl : oc = _ := c1
 obtain rfl : od = _ := c2
 obtain rfl : sl = _ := c3
 obtain rfl : da = _ := dd
 refine ⟨es.toList, ep, ?_, denD_of hl D P fun e he => K e (by simpa using he)⟩
 show (_ : Obj) = { cls := _, data := .dict es.toList.toArray ep }
 rw [Array.toArray_toList]
noncomputable def lookD (k : List Nat) : List (List Nat) → List V → Option V
 | k' :: ks, v :: vs => if k' = k then some v else lookD k ks vs
 | _, _ => none
theorem valueAt_cons {k : Str} {p : Str × Value} {r : List (Str × Value)} : valueAt (p :: r) k = if p.1 = k then some p.2 else valueAt r k := by
 unfold valueAt
 rw [List.find?_cons]
 by_cases h : p.1 = k
 ·simp [h]
 ·simp [h]
theorem lookD_some {W : Wd} {Z : Led} {k : List Nat} {y : V} : ∀ {ks : List (List Nat)} {xs : List V} {us : List Value}, denL W Z xs us → lookD k ks xs = some y → ∃ u, valueAt (kvOf ks us) (kS k) = some u ∧ den W Z y u
 | [], xs, us, d, e => by simp [lookD] at e
 | k' :: ks, [], us, d, e => by simp [lookD] at e
 | k' :: ks, x :: xs, us, d, e => by
  simp only [denL] at d
  obtain ⟨v, us', rfl, d1, D⟩ := d
  unfold kvOf
  rw [List.map_cons, List.zip_cons_cons, valueAt_cons]
  simp only [lookD] at e
  by_cases q : k' = k
  ·rw [if_pos q] at e
   cases e
   exact ⟨v, by rw [if_pos (by rw [q])], d1⟩
  ·rw [if_neg q] at e
   obtain ⟨u, h1, h2⟩ := lookD_some D e
   exact ⟨u, by rw [if_neg fun z => q (kS_inj z)]; exact h1, h2⟩
theorem lookD_none {W : Wd} {Z : Led} {k : List Nat} : ∀ {ks : List (List Nat)} {xs : List V} {us : List Value}, denL W Z xs us → lookD k ks xs = none → valueAt (kvOf ks us) (kS k) = none
 | [], xs, us, d, e => rfl
 | k' :: ks, [], us, d, e => by simp only [denL] at d; subst d; rfl
 | k' :: ks, x :: xs, us, d, e => by
  simp only [denL] at d
  obtain ⟨v, us', rfl, d1, D⟩ := d
  unfold kvOf
  rw [List.map_cons, List.zip_cons_cons, valueAt_cons]
  simp only [lookD] at e
  by_cases q : k' = k
  ·rw [if_pos q] at e; cases e
  ·rw [if_neg q] at e
   rw [if_neg fun z => q (kS_inj z)]
   exact lookD_none D e
noncomputable def IsDct (hp : HP) (v : V) (ks : List (List Nat)) (vs : List V) : Prop := (∃ a, v = .ref a ∧ hp a = some (.dict ks vs)) ∨ v = .dict ks vs
theorem IsDct.m {hp : HP} {a : Addr} {ks : List (List Nat)} {vs : List V} (h : hp a = some (.dict ks vs)) : IsDct hp (.ref a) ks vs := .inl ⟨a, rfl, h⟩
theorem IsDct.f {hp : HP} {ks : List (List Nat)} {vs : List V} : IsDct hp (.dict ks vs) ks vs := .inr rfl
section
variable {C : Fm} {x : HP → Prop} {lc : Loc} {hp : HP} {k : V → Loc → HP → Prop}
theorem dct_at {Z : Led} {h : Heap} {m : Str → Option Value} {mu : Mut} {fo : Led} (X : RelX C Z hp h m mu fo) {v : V} {u : Value} {ks : List (List Nat)} {xs : List V} (hn : ks.Nodup) (i : IsDct hp v ks xs) (d : den C.W Z v u) :
  ∃ a us, u = .ref a ∧ (a == sysModules) = false ∧ h.DictOf (strKind pw C.W.w) a (kvOf ks us) ∧ denL C.W Z xs us ∧ ks.length = xs.length := by
 rcases i with ⟨a, rfl, e⟩ | rfl
 ·obtain rfl : u = .ref a := d
  obtain ⟨key, ob, m1, rfl, y, es, n, rfl, D⟩ := X.hp a _ e
  have g := (X.N (key, dictOf es n) (List.mem_append_right _ (List.mem_append_left _ (List.mem_map_of_mem m1)))).1
  obtain ⟨us, Du, I⟩ := isDictOf (n := n) D hn
  exact ⟨key, us, rfl, y, Heap.dictOf_iff.mpr ⟨_, g, I⟩, Du, denD_len D⟩
 ·simp only [den] at d
  obtain ⟨a, es, n, rfl, y, H, D⟩ := d
  obtain ⟨us, Du, I⟩ := isDictOf (n := n) D hn
  exact ⟨a, us, rfl, y, Heap.dictOf_iff.mpr ⟨_, X.has H, I⟩, Du, denD_len D⟩
theorem OpSub.dict {value slice : PySem.Expr} {v y : V} {ks : List (List Nat)} {xs : List V} {key : List Nat} (i : IsDct hp v ks xs) (hn : ks.Nodup) (e : lookD key ks xs = some y) (h : k y lc hp) : OpSub C value slice v (.str key) k x lc hp := by
 intro Z s Q E us ok R d nn yy
 obtain ⟨u, uk, rfl, d1, ⟨t, rfl⟩⟩ := den2 d
 have R0 := R
 obtain ⟨m, mu, fo, X, lo⟩ := R
 obtain ⟨a, us, rfl, ya, hD, D, hl⟩ := dct_at X hn i d1
 obtain ⟨u, e1, du⟩ := lookD_some D e
 obtain ⟨ops, hs⟩ := subOk slice (.ref a) (.str ⟨key.toArray⟩ t)
 exact tail_any hD.typeIs slot_dict_getitem.lookup (wpAny_getItem_of (strKind_is ..) hD.mapOf e1 (nn Z y u lc hp _ (sub_refl Z) du R0 (Same.mk' ..) h)) hs
theorem OpCmp.inD {c : V} {ks : List (List Nat)} {xs : List V} {key : List Nat} (i : IsDct hp c ks xs) (hn : ks.Nodup) (h : k (.bool (lookD key ks xs).isSome) lc hp) : OpCmp C .In (.str key) c k x lc hp := by
 intro Z s Q E us ok R d nn yy
 obtain ⟨uk, u, rfl, ⟨t, rfl⟩, d1⟩ := den2 d
 have R0 := R
 obtain ⟨m, mu, fo, X, lo⟩ := R
 obtain ⟨a, us, rfl, ya, hD, D, hl⟩ := dct_at X hn i d1
 refine wpAny_in_of (strKind_is ..) ya hD.mapOf (nn Z (.bool _) _ lc hp _ (sub_refl Z) ?_ R0 (Same.mk' ..) h)
 show Value.bool _ = Value.bool _
 cases q : lookD key ks xs with
 | some y => obtain ⟨u, e1, _⟩ := lookD_some D q; show Value.bool (valueAt _ (kS key)).isSome = _; rw [e1]; rfl
 | none => show Value.bool (valueAt _ (kS key)).isSome = _; rw [lookD_none D q]; rfl
theorem OpMeth.get {v : V} {ks : List (List Nat)} {xs : List V} {k : V × List V → Loc → HP → Prop} (i : IsDct hp v ks xs) (hn : ks.Nodup) (h : k (.raw (.builtin "dict.get"), [v]) lc hp) : OpMeth C v "get" k x lc hp := by
 intro pl Z s Q E us ok R d nn yy
 obtain ⟨u, rfl, d1⟩ := den1 d
 have R0 := R
 obtain ⟨m, mu, fo, X, lo⟩ := R
 obtain ⟨a, us, rfl, ya, hD, D, hl⟩ := dct_at X hn i d1
 exact getMethod_builtin hD.typeIs PySem.F.plainAttrs_dict PySem.F.slot_dict_get PySem.F.type_dict_get hD.mapOf.noDict (nn Z (.raw (.builtin "dict.get"), [v]) (_, _) lc hp _ (sub_refl Z) ⟨rfl, ⟨_, _, rfl, d1, rfl⟩⟩ R0 (Same.refl ..) h)
theorem OpCall.get {v : V} {ks : List (List Nat)} {xs : List V} {key : List Nat} (i : IsDct hp v ks xs) (hn : ks.Nodup) (h : k ((lookD key ks xs).getD .none) lc hp) : OpCall C (.raw (.builtin "dict.get")) [v, .str key] k x lc hp := by
 intro Z s Q E us ok R d nn yy
 simp only [denL] at d
 obtain ⟨_, _, rfl, rfl, u, _, rfl, d1, _, _, rfl, ⟨t, rfl⟩, rfl⟩ := d
 have R0 := R
 obtain ⟨m, mu, fo, X, lo⟩ := R
 obtain ⟨a, us, rfl, ya, hD, D, hl⟩ := dct_at X hn i d1
 refine call_meetsIn PySem.F.slot_dict_get hD.typeIs PySem.F.entry_dict_get (PySem.F.args_dict_get_2 _ _) (meets_dict_get (strKind pw C.W.w) a (strKind_is ..) ya) ⟨_, hD.mapOf, nn Z ((lookD key ks xs).getD .none) _ lc hp _ (sub_refl Z) ?_ R0 (Same.mk' ..) h⟩
 show den _ _ _ ((valueAt _ (kS key)).getD _)
 cases q : lookD key ks xs with
 | some y => obtain ⟨u, e1, du⟩ := lookD_some D q; rw [e1]; exact du
 | none => rw [lookD_none D q]; rfl
theorem kv_append {ks : List (List Nat)} {us : List Value} {key : List Nat} {u : Value} (hl : ks.length = us.length) : kvOf (ks ++ [key]) (us ++ [u]) = kvOf ks us ++ [(kS key, u)] := by
 unfold kvOf
 rw [List.map_append, List.zip_append (by simp [hl])]
 rfl
theorem OpSetItem.dict {a : Addr} {ks : List (List Nat)} {xs : List V} {key : List Nat} {y : V} {k : Unit → Loc → HP → Prop} (e : hp a = some (.dict ks xs)) (hn : (ks ++ [key]).Nodup) (hz : ks.length ≤ 1048576) (h : k () lc (hp.set a (.dict (ks ++ [key]) (xs ++ [y])))) : OpSetItem C (.ref a) (.str key) y k x lc hp := by
 intro Z s Q E us ok R d nn yy
 simp only [denL] at d
 obtain ⟨_, _, rfl, rfl, _, _, rfl, ⟨t, rfl⟩, u, _, rfl, du, rfl⟩ := d
 obtain ⟨m, mu, fo, X, lo⟩ := R
 obtain ⟨key', ob, m1, rfl, ya, es, n, rfl, D⟩ := X.hp a _ e
 have hn0 : ks.Nodup := (List.nodup_append.mp hn).1
 obtain ⟨a', us, ea, _, hD, Du, hl⟩ := dct_at X hn0 (IsDct.m e) (u := .ref key') rfl
 obtain rfl : key' = a' := by injection ea
 have hl' : ks.length = us.length := by rw [hl, denL_length Du]
 have hst : stored (kvOf ks us) (kS key) u = kvOf (ks ++ [key]) (us ++ [u]) := by
  unfold stored
  rw [if_neg, kv_append hl']
  intro q
  obtain ⟨p, p1, p2⟩ := List.any_eq_true.mp q
  have : kS key ∈ (kvOf ks us).map (·.1) := List.mem_map.mpr ⟨p, p1, by simpa using p2⟩
  rw [kv_keys hl'] at this
  obtain ⟨k', q1, q2⟩ := List.mem_map.mp this
  have := (List.nodup_append.mp hn).2.2 k' q1 key (by simp)
  exact this (kS_inj q2)
 refine wpAny_setItem_pairs (hsz := by rw [sizeLine_eq]; simp only [kvOf, List.length_zip, List.length_map]; exact oh5 hz) (strKind_is pw C.W.w (kS key) t) hD fun h' hD' hs' => ?_
 have hD' : h'.DictOf (PySem.strKind pw C.W.w) key' (stored (kvOf ks us) (kS key) u) := hD'
 rw [hst] at hD'
 obtain ⟨o', ho', I⟩ := Heap.dictOf_iff.mp hD'
 obtain ⟨es', n', rfl, D'⟩ := of_isDictOf I (xs := xs ++ [y]) (by simp [hl]) (denL_append Du ⟨u, [], rfl, du, rfl⟩)
 obtain ⟨mu', X'⟩ := X.turn m1 hs' ho' (o' := .dict (ks ++ [key]) (xs ++ [y])) ⟨rfl, ya, es', n', rfl, D'⟩
 exact nn Z () () lc _ _ (sub_refl Z) trivial ⟨m, mu', fo, X', lo⟩ (Same.mk' ..) h
end
end Mine
end
section
open PySem PySem.W PyProof.Rows PySem.Calls PySem.NumText
namespace Mine
namespace I16
theorem wp_text {M : Model} {A : Around} {E : Value → Shared → Prop} {s : Shared} {Q : Value → Shared → Prop} {v : Value} {text : List Nat} {n : Int}
  (hs : (text.takeWhile (· != 0)).length ≤ 640) (hr : (int_private% "readNumeral") 0 16 (text.takeWhile (· != 0)) = (int_private% "Numeral.value") n)
  (ha : ((text.takeWhile (· != 0)).length == text.length) = true) (h : Q (.int n s.toks) { s with toks := s.toks + 1 }) :
  wpAny M A ((int_private% "intFromText") v text 16) Q E s := by
 obtain ⟨hp, g, d, tk, os⟩ := s
 repeat (any_goals (first
  | assumption
  | (with_reducible refine wpAny_ite_true (decide_eq_true hs) ?_)
  | (with_reducible refine wpAny_ite_true (decide_eq_true ha) ?_)
  | wp_step))
 all_goals (try rw [hr])
 all_goals (try dsimp only)
 repeat (any_goals (first
  | assumption
  | (with_reducible refine wpAny_ite_true (decide_eq_true hs) ?_)
  | (with_reducible refine wpAny_ite_true (decide_eq_true ha) ?_)
  | wp_step))
noncomputable def hexN (c : Nat) : Int := if c < 58 then c - 48 else if c < 71 then c - 55 else c - 87
noncomputable def isHex (c : Nat) : Bool := (decide (48 ≤ c) && decide (c < 58)) || (decide (65 ≤ c) && decide (c < 71)) || (decide (97 ≤ c) && decide (c < 103))
theorem read16 {c : Nat} (h : isHex c = true) : (int_private% "readNumeral") 0 16 ([c].takeWhile (· != 0)) = (int_private% "Numeral.value") (hexN c) := by
 have hlt : c < 103 := by simp only [isHex, Bool.or_eq_true, Bool.and_eq_true, decide_eq_true_eq] at h; exact oo12 h
 have key : ∀ c : Fin 103, isHex c = true → (int_private% "readNumeral") 0 16 ([c.val].takeWhile (· != 0)) = (int_private% "Numeral.value") (hexN c.val) := by
  intro c h
  have : c.val ∈ [48, 49, 50, 51, 52, 53, 54, 55, 56, 57, 65, 66, 67, 68, 69, 70, 97, 98, 99, 100, 101, 102] := (by decide +kernel : ∀ c : Fin 103, isHex c = true → c.val ∈ [48, 49, 50, 51, 52, 53, 54, 55, 56, 57, 65, 66, 67, 68, 69, 70, 97, 98, 99, 100, 101, 102]) c h
  generalize c.val = c at this h
  simp only [List.mem_cons, List.not_mem_nil, or_false] at this
  rcases this with rfl | rfl | rfl | rfl | rfl | rfl | rfl | rfl | rfl | rfl | rfl | rfl | rfl | rfl | rfl | rfl | rfl | rfl | rfl | rfl | rfl | rfl <;> kernel_rfl
 exact key ⟨c, hlt⟩ h
theorem typeCall2 (a b : Value) : checkTypeCall "int" ⟨[a, b], []⟩ = pure () := by kernel_rfl
theorem newCall2 (a b : Value) : checkBuiltinCall "int.__new__" ⟨[.type "int", a, b], []⟩ = pure () := by kernel_rfl
theorem wp_text' {M : Model} {A : Around} {E : Value → Shared → Prop} {s : Shared} {Q : Value → Shared → Prop} {v : Value} {text : List Nat} {c b : Nat} (hc : isHex c = true) (ht : text = [c]) (hb : b = 16)
  (h : Q (.int (hexN c) s.toks) { s with toks := s.toks + 1 }) : wpAny M A ((int_private% "intFromText") v text b) Q E s := by
 subst ht hb
 have hc0 : (c != 0) = true := by simp only [isHex, Bool.or_eq_true, Bool.and_eq_true, decide_eq_true_eq] at hc; simp; exact oy13 hc
 have e : [c].takeWhile (· != 0) = [c] := by rw [List.takeWhile_cons, if_pos hc0]; rfl
 refine wp_text (n := hexN c) ?_ (read16 hc) ?_ h
 ·rw [e]; show 1 ≤ 640; decide
 ·rw [e]; rfl
theorem text_is {c : Nat} (hc : isHex c = true) : (if ((⟨#[c]⟩ : Str).cps.all fun x => decide (x < 128)) = true then (⟨#[c]⟩ : Str).cps.toList else Unicode.numberText (⟨#[c]⟩ : Str).cps.toList) = [c] := by
 have hlt : c < 128 := by simp only [isHex, Bool.or_eq_true, Bool.and_eq_true, decide_eq_true_eq] at hc; exact oj12 hc
 rw [if_pos (by simp [hlt])]
set_option maxHeartbeats 4000000 in
theorem gives {c : Nat} {u t : Tok} (hc : isHex c = true) : Gives (Builtin.«int.__new__» ⟨[.type "int", .str ⟨#[c]⟩ u, .int 16 t], []⟩) (.int (hexN c)) :=
 .of_wp fun M A E s Q h => by
  obtain ⟨hp, g, d, tk, os⟩ := s
  have f1 := PySem.F.conv_sub_int
  have f2 := PySem.F.madeHere_int
  have f6 : typeOf (.str ⟨#[c]⟩ u) = pure (.type "str") := rfl
  repeat (any_goals (first
   | assumption
   | ((with_reducible show wpAny _ _ ((int_private% "intFromText") _ _ _) _ _ _); refine wp_text' hc (text_is hc) rfl ?_)
   | wp_step))
  all_goals first | exact ⟨_, rfl, h⟩ | skip
theorem call_int16 {prog : Program} {w : World} {A : Around} {E : Value → Shared → Prop} {s : Shared} {Q : Value → Shared → Prop} {c : Nat} {u t : Tok} (hc : isHex c = true) (h : Q (.int (hexN c) s.toks) { s with toks := s.toks + 1 }) :
  wpAny (model prog w) A (call (.type "int") [.str ⟨#[c]⟩ u, .int 16 t]) Q E s :=
 callType_new PySem.F.called_int PySem.F.newNe_int (typeCall2 _ _) (newCall2 _ _) (fun obj => PySem.F.args_object_init_3 obj _ _) PySem.F.entry_int_new (gives hc).meets (show (Made.int (hexN c)).post _ s from ⟨rfl, h⟩)
end I16
section
variable {C : Fm} {x : HP → Prop} {lc : Loc} {hp : HP} {k : V → Loc → HP → Prop}
theorem OpCall.int16 {c : Nat} (hc : I16.isHex c = true) (h : k (.int (I16.hexN c)) lc hp) : OpCall C (.raw (.type "int")) [.str [c], .int 16] k x lc hp := by
 intro Z s Q E us ok R d nn y
 simp only [denL] at d
 obtain ⟨_, _, rfl, rfl, _, _, rfl, ⟨t, rfl⟩, _, _, rfl, ⟨u, rfl⟩, rfl⟩ := d
 exact I16.call_int16 hc (nn Z (.int _) _ lc hp _ (sub_refl Z) ⟨_, rfl⟩ R (Same.mk' ..) h)
end
end Mine
end
section
open PySem PySem.W PyProof.Rows PySem.Calls
namespace Mine
section
variable {C : Fm} {x : HP → Prop} {lc : Loc} {hp : HP} {k : V → Loc → HP → Prop}
theorem SE.cmp2 {l r1 r2 : PySem.Expr} {o1 o2 : CmpOp} {pos : Pos}
  (h : SE C l (fun a lc hp => SE C r1 (fun b lc hp => OpCmp C o1 a b (fun v lc hp => OpTruth C v (fun t lc hp => if t = true then SE C r2 (fun c lc hp => OpCmp C o2 b c k x lc hp) x lc hp else k v lc hp) x lc hp) x lc hp) x lc hp) x lc hp)
  (hm : lastMarks [o1, o2] [r1, r2] = false) : SE C (.Compare l [o1, o2] [r1, r2] pos) k x lc hp := by
 intro Z s Q E us ok R d nn y
 refine Compare_chain (h Z s _ _ us ok R d ?_ y) hm
 intro Z1 v1 a1 lc1 hp1 s1 z1 q1 R1 e1 h1
 refine chain_link (h1 Z1 s1 _ _ [] ok R1 rfl ?_ (y.step z1 e1))
 intro Z2 v2 a2 lc2 hp2 s2 z2 q2 R2 e2 h2
 refine h2 Z2 s2 _ _ [a1, a2] ok R2 ⟨a1, [a2], rfl, q1.mono z2, a2, [], rfl, q2, rfl⟩ ?_ ((y.step z1 e1).step z2 e2)
 intro Z3 v3 a3 lc3 hp3 s3 z3 q3 R3 e3 h3
 refine h3 Z3 s3 _ _ [a3] ok R3 ⟨a3, [], rfl, q3, rfl⟩ ?_ (((y.step z1 e1).step z2 e2).step z3 e3)
 intro Z4 v4 a4 lc4 hp4 s4 z4 q4 R4 e4 h4
 subst q4
 cases a4 with
 | false =>
  simp only [Bool.false_eq_true, if_false] at h4 ⊢
  exact nn Z4 v3 a3 lc4 hp4 s4 (fun _ q => z4 (z3 (z2 (z1 q)))) (q3.mono z4) R4 (((e1.trans e2).trans e3).trans e4) h4
 | true =>
  simp only [if_true] at h4 ⊢
  have n4 := (((nn.step z1 e1).step z2 e2).step z3 e3).step z4 e4
  have y4 := (((y.step z1 e1).step z2 e2).step z3 e3).step z4 e4
  refine chain_last (h4 Z4 s4 _ _ [] ok R4 rfl ?_ y4)
  intro Z5 v5 a5 lc5 hp5 s5 z5 q5 R5 e5 h5
  exact h5 Z5 s5 _ _ [a2, a5] ok R5 ⟨a2, [a5], rfl, q2.mono fun _ q => z5 (z4 (z3 q)), a5, [], rfl, q5, rfl⟩ (n4.step z5 e5) (y4.step z5 e5)
theorem ST.cmp2 {l r1 r2 : PySem.Expr} {o1 o2 : CmpOp} {pos : Pos} {kb : Bool → Loc → HP → Prop} {wh : Sem Value}
  (h : SE C l (fun a lc hp => SE C r1 (fun b lc hp => OpCmp C o1 a b (fun v lc hp => OpTruth C v (fun t lc hp => if t = true then SE C r2 (fun c lc hp => OpCmp C o2 b c (fun v lc hp => OpTruth C v kb x lc hp) x lc hp) x lc hp else kb false lc hp) x lc hp) x lc hp) x lc hp) x lc hp)
  (hm : lastMarks [o1, o2] [r1, r2] = false) : ST C (.Compare l [o1, o2] [r1, r2] pos) wh kb x lc hp := by
 intro Z s Q E us ok R d nn y
 refine isTrue_chain (h Z s _ _ us ok R d ?_ y) hm
 intro Z1 v1 a1 lc1 hp1 s1 z1 q1 R1 e1 h1
 refine test_link (h1 Z1 s1 _ _ [] ok R1 rfl ?_ (y.step z1 e1))
 intro Z2 v2 a2 lc2 hp2 s2 z2 q2 R2 e2 h2
 refine h2 Z2 s2 _ _ [a1, a2] ok R2 ⟨a1, [a2], rfl, q1.mono z2, a2, [], rfl, q2, rfl⟩ ?_ ((y.step z1 e1).step z2 e2)
 intro Z3 v3 a3 lc3 hp3 s3 z3 q3 R3 e3 h3
 refine h3 Z3 s3 _ _ [a3] ok R3 ⟨a3, [], rfl, q3, rfl⟩ ?_ (((y.step z1 e1).step z2 e2).step z3 e3)
 intro Z4 v4 a4 lc4 hp4 s4 z4 q4 R4 e4 h4
 subst q4
 cases a4 with
 | false =>
  simp only [Bool.false_eq_true, if_false] at h4 ⊢
  exact nn Z4 false false lc4 hp4 s4 (fun _ q => z4 (z3 (z2 (z1 q)))) rfl R4 (((e1.trans e2).trans e3).trans e4) h4
 | true =>
  simp only [if_true] at h4 ⊢
  have n4 := (((nn.step z1 e1).step z2 e2).step z3 e3).step z4 e4
  have y4 := (((y.step z1 e1).step z2 e2).step z3 e3).step z4 e4
  refine test_last (h4 Z4 s4 _ _ [] ok R4 rfl ?_ y4)
  intro Z5 v5 a5 lc5 hp5 s5 z5 q5 R5 e5 h5
  refine h5 Z5 s5 _ _ [a2, a5] ok R5 ⟨a2, [a5], rfl, q2.mono fun _ q => z5 (z4 (z3 q)), a5, [], rfl, q5, rfl⟩ ?_ (y4.step z5 e5)
  intro Z6 v6 a6 lc6 hp6 s6 z6 q6 R6 e6 h6
  exact h6 Z6 s6 _ _ [a6] ok R6 ⟨a6, [], rfl, q6, rfl⟩ ((n4.step z5 e5).step z6 e6) ((y4.step z5 e5).step z6 e6)
theorem SE.gK {n : Str} {pos : Pos} {v : V} {u : Value} {sc : Scope} (hs : C.env.scope = sc) (hl : sc.names.lookup n = some .globalImplicit) (hd : (n == ("__debug__" : Str)) = false) (hv : nsIn (K C.W.w.params) mainGlobals n = some (some u)) (du : WOk C.W → ∀ Z, den C.W Z v u) (h : k v lc hp) : SE C (.Name n pos) k x lc hp := by
 intro Z s Q E us ok R d nn y
 exact SE.nameG (by rw [hs]; exact hl) hv (du ok.wok) h hd Z s Q E us ok R d nn y
theorem Has.ofK {W : Wd} {Z : Led} (ok : WOk W) {a : Addr} {o : Obj} (e : (K W.w.params).lookup a = some o) : Has W Z a o := .inl (ok.X _ _ e)
theorem sord_strs (ks : List (List Nat)) : SOrd fun i j => decide (ks.getD i [] < ks.getD j []) := by
 constructor
 ·intro i
  simp only [decide_eq_false_iff_not]
  exact List.lt_irrefl _
 ·intro i j k
  simp only [decide_eq_true_eq]
  exact List.lt_trans
 ·intro i j k
  simp only [decide_eq_true_eq]
  intro h
  by_cases q : ks.getD i [] < ks.getD j []
  ·exact .inl q
  ·exact .inr (List.lt_of_le_of_lt (List.not_lt.mp q) h)
theorem OpCall.sortedD {v : V} {ks : List (List Nat)} {xs : List V} (i : IsDct hp v ks xs) (hn : ks.Nodup) (h2 : 2 ≤ ks.length) (hz : ks.length < 64) (h : ∀ ns : List (List Nat), ns.Perm ks → k (.lst (ns.map .str)) lc hp) :
  OpCall C (.raw (.builtin "sorted")) [v] k x lc hp := by
 intro Z s Q E us ok R d nn y
 obtain ⟨_, u, rfl, rfl, du⟩ := den2 d
 obtain ⟨m, mu, fo, X, lo⟩ := R
 obtain ⟨a, us, rfl, ya, hD, D, hl⟩ := dct_at X hn i du
 obtain ⟨ep, hat⟩ := hD.dictAt
 have hl' : ks.length = us.length := by rw [hl, denL_length D]
 have hkl : (kvOf ks us).length = ks.length := by simp only [kvOf, List.length_zip, List.length_map]; exact ou3 hl'
 refine kdu_sorted (kdl_dict ya) ok.hand X.F X.N hat (by rw [hkl, sizeLine_eq]; exact os4 hz) fun Da h' tk vs F' N' hlt hlen hP => ?_
 rw [hkl] at hlen
 have hv : ∀ j, j < ks.length → ∃ t, vs[j]? = some (.str (kS (ks.getD j [])) t) := fun j hj => by
  obtain ⟨kk, xx, e1, e2⟩ := hP j _ (List.getElem?_eq_getElem (by exact ox0 hlen hj))
  have e3 : ((kvOf ks us).map (·.1))[j]? = some kk := by rw [List.getElem?_map, e1]; rfl
  rw [kv_keys hl', List.getElem?_map, List.getElem?_eq_getElem hj] at e3
  injection e3 with e3
  obtain ⟨t, e4⟩ := Value.isStrOf_shape e2
  exact ⟨t, by rw [List.getElem?_eq_getElem (by exact ox0 hlen hj), e4, ← e3, List.getD_eq_getElem?_getD, List.getElem?_eq_getElem hj]; rfl⟩
 have X1 : RelX C ((Da, PySem.W.listOf vs.toArray 0) :: Z) hp h' m mu fo := ⟨F', N', X.nd, fun p hp => by
  rcases List.mem_cons.mp hp with rfl | hp
  ·intro q
   obtain ⟨r, r1, r2⟩ := List.mem_map.mp q
   exact Nat.lt_irrefl _ (r2 ▸ hlt r (List.mem_append_right _ r1))
  ·exact X.dj p hp, X.pr, fun b ob e => by
   obtain ⟨key, ob', m1, c⟩ := X.hp b ob e
   exact ⟨key, ob', m1, c.mono fun _ q => .tail _ q⟩⟩
 refine kas_lsort (vs := vs) (T := .type "str") F' N' (.head fun p hp => Nat.ne_of_lt (hlt p hp)) (by simp) (by exact og4 hlen h2) (by exact ob2 hlen hz) (fun e1 h1 F1 N1 v hv' => ?_) (by rfl) fun e1 h1 F1 N1 => ?_
 ·obtain ⟨j, hj, rfl⟩ := List.mem_iff_getElem.mp hv'
  obtain ⟨t, e⟩ := hv j (by exact oh0 hlen hj)
  rw [List.getElem?_eq_getElem hj] at e
  injection e with e
  rw [e]
  exact .now
 ·refine PW.run (N := vs.length) (lt := fun i j => decide (ks.getD i [] < ks.getD j [])) (I := fun s' => s' = { s with heap := h1, toks := tk }) (Q := fun p => Gd vs.length p) (fun i j Cc s' hi hj e hc => ?_) (fun p s' g e => ?_) (sort_ok (sord_strs ks) (by exact od4 hlen h2) fun p g sr => g) _ rfl
  ·subst e
   obtain ⟨t1, e1⟩ := hv i (by exact oh0 hlen hi)
   obtain ⟨t2, e2⟩ := hv j (by exact oh0 hlen hj)
   unfold kas_ask
   rw [List.getD_eq_getElem?_getD, List.getD_eq_getElem?_getD, e1, e2]
   simp only [Option.getD_some]
   rw [keyLt'_oneType]
   exact oneLt_str (hc _ rfl)
  ·subst e
   refine KasFin.intro F1 N1 (.head fun p hp => Nat.ne_of_lt (hlt p hp)) fun h2 c F2 N2 => ?_
   have X2 := X.grow F2 N2 fun p hp => Nat.ne_of_lt (hlt p (List.mem_append_right _ hp))
   rw [hlen] at g
   refine nn _ (.lst ((p.toList.map fun i => ks.getD i []).map .str)) _ lc hp _ (fun _ q => .tail _ q) ?_ ⟨m, mu, fo, X2, lo.mono fun _ q => .tail _ q⟩ (Same.mk' s _ tk) (h _ (perm_pick _ ks g))
   simp only [den]
   refine ⟨_, _, _, _, rfl, .inr (.head _), rfl, rfl, ?_⟩
   rw [List.map_map]
   refine denL_map fun i hi => ?_
   have hi' : i < ks.length := by simpa using g.mem_iff.mp hi
   obtain ⟨t, e⟩ := hv i hi'
   rw [List.getD_eq_getElem?_getD, e]
   exact ⟨t, rfl⟩
noncomputable def denP (W : Wd) (Z : Led) : List (List Nat × V) → List (Value × Value) → Prop
 | [], qs => qs = []
 | (n, y) :: r, qs => ∃ t u qs', qs = (.str (kS n) t, u) :: qs' ∧ den W Z y u ∧ denP W Z r qs'
noncomputable def SP (C : Fm) (ks : List (Option PySem.Expr)) (vs : List PySem.Expr) (pos : Pos) (k : List (List Nat × V) → Loc → HP → Prop) (x : HP → Prop) (lc : Loc) (hp : HP) : Prop := Tri C (denP C.W) [] (fun _ => evalPairs (pairTrees ks vs C.env pos)) k x lc hp
theorem SP.nil {pos : Pos} {k : List (List Nat × V) → Loc → HP → Prop} (h : k [] lc hp) : SP C [] [] pos k x lc hp := by
 intro Z s Q E us ok R d nn y
 exact pairTrees_nil_walk (nn Z [] _ lc hp _ (sub_refl Z) rfl R (Same.refl ..) h)
theorem SP.cons {i : String} {kk : Nat} {p : Pos} {v : PySem.Expr} {ks : List (Option PySem.Expr)} {vs : List PySem.Expr} {pos : Pos} {k : List (List Nat × V) → Loc → HP → Prop} {n : List Nat} (en : (Str.ofString i).cps.toList = n)
  (h : SE C v (fun y lc hp => SP C ks vs pos (fun r lc hp => k ((n, y) :: r) lc hp) x lc hp) x lc hp) : SP C (some (.Constant (.str (Str.ofString i)) kk p) :: ks) (v :: vs) pos k x lc hp := by
 intro Z s Q E us ok R d nn y
 refine pairTrees_cons_walk (SE.str (i := Str.ofString i) en (k := fun w lc' hp' => w = .str n ∧ lc' = lc ∧ hp' = hp) ⟨rfl, rfl, rfl⟩ Z s _ _ us ok R d ?_ y)
 intro Z1 v1 a1 lc1 hp1 s1 z1 q1 R1 e1 kk
 obtain ⟨rfl, rfl, rfl⟩ := kk
 obtain ⟨t, q1⟩ := q1
 refine h Z1 s1 _ _ [] ok R1 rfl ?_ (y.step z1 e1)
 intro Z2 v2 a2 lc2 hp2 s2 z2 q2 R2 e2 h2
 refine h2 Z2 s2 _ _ [] ok R2 rfl ?_ ((y.step z1 e1).step z2 e2)
 intro Z3 v3 a3 lc3 hp3 s3 z3 q3 R3 e3 h3
 exact nn Z3 ((n, v2) :: v3) ((a1, a2) :: a3) lc3 hp3 s3 (fun _ q => z3 (z2 (z1 q))) ⟨t, a2, a3, by rw [q1]; rfl, q2.mono z3, q3⟩ R3 ((e1.trans e2).trans e3) h3
theorem carries_P {W : Wd} {Z : Led} : ∀ {ps : List (List Nat × V)} {qs : List (Value × Value)}, denP W Z ps qs → ∃ us, denL W Z (ps.map (·.2)) us ∧ Carries (strKind pw W.w) qs (kvOf (ps.map (·.1)) us)
 | [], qs, d => by
  simp only [denP] at d
  subst d
  exact ⟨[], rfl, trivial⟩
 | (n, y) :: r, qs, ⟨t, u, qs', e, d, D⟩ => by
  subst e
  obtain ⟨us, D2, Cc⟩ := carries_P D
  exact ⟨u :: us, ⟨u, us, rfl, d, D2⟩, strKind_is .., rfl, Cc⟩
theorem SE.dict {keys : List (Option PySem.Expr)} {values : List PySem.Expr} {pos : Pos} (hall : keys.all (·.isSome) = true) (hl : keys.length = values.length) (h0 : keys ≠ []) (hlen : keys.length ≤ 15)
  (h : ∀ a, hp a = Option.none → SP C keys values pos (fun ps lc2 hp2 => hp2 a = some (.dict [] []) ∧ (ps.map (·.1)).Nodup ∧ k (.ref a) lc2 (hp2.set a (.dict (ps.map (·.1)) (ps.map (·.2))))) x lc (hp.set a (.dict [] []))) : SE C (.Dict keys values pos) k x lc hp := by
 intro Z s Q E us ok R d nn y
 obtain ⟨m, mu, fo, X, lo⟩ := R
 have ya : (s.heap.objs.size == sysModules) = false := by
  have h1 := X.F.above
  have h2 : (95 : Nat) < C.W.base.objs.size := Heap.lt_size (ok.wok.X _ _ (show (K C.W.w.params).lookup 95 = some o95' from k95 _))
  have h3 : C.L < s.heap.objs.size := X.F.ns.lt
  rw [beq_eq_false_iff_ne]
  have h4 : (1 : Nat) < s.heap.objs.size := Nat.lt_trans (Nat.lt_trans (by decide) (Nat.lt_of_lt_of_le h2 h1)) h3
  exact fun q => Nat.lt_irrefl 1 (by have q' : s.heap.objs.size = 1 := q; rw [q'] at h4; exact h4)
 have X' := X.pushM (dictOf [] 0) (.dict [] []) rfl ⟨rfl, ya, [], 0, rfl, rfl, rfl⟩
 refine wpAny_Dict_walk (knd := strKind pw C.W.w) hall hl h0 hlen (h _ (hp_none X (Nat.le_refl _)) Z { s with heap := s.heap.push { cls := .type "dict", data := .dict #[] } } _ _ us ok ⟨m, _, fo, X', lo⟩ d ?_ (y.step (sub_refl Z) (Same.mk' s _ s.toks)))
 rintro Z1 ps qs lc1 hp1 s1 z1 q1 R1 e1 ⟨g1, g2, g3⟩
 obtain ⟨m1, mu1, fo1, X1, lo1⟩ := R1
 obtain ⟨us', D, Cc⟩ := carries_P q1
 obtain ⟨key, ob, mm, rfl, ya', es, n, rfl, D0⟩ := X1.hp _ _ g1
 have hl' : (ps.map (·.1)).length = us'.length := by rw [denL_length D]; simp
 have hnd : ((kvOf (ps.map (·.1)) us').map (·.1)).Nodup := by rw [kv_keys hl']; exact nodup_kS g2
 obtain ⟨a0, us0, ea0, _, hD0, D00, _⟩ := dct_at X1 List.nodup_nil (IsDct.m g1) rfl
 injection ea0 with ea0
 subst ea0
 refine ⟨_, Cc, hD0, fun h' hm hs => ?_⟩
 rw [merged_nil_of_nodup _ hnd] at hm
 obtain ⟨o', ho', I⟩ := Heap.dictOf_iff.mp hm
 obtain ⟨es', n', rfl, D'⟩ := of_isDictOf I (xs := ps.map (·.2)) (by simp) D
 obtain ⟨mu', X2⟩ := X1.turn mm hs ho' (o' := .dict (ps.map (·.1)) (ps.map (·.2))) ⟨rfl, ya', es', n', rfl, D'⟩
 exact nn Z1 (.ref _) _ lc1 _ _ z1 rfl ⟨m1, mu', fo1, X2, lo1⟩ ((Same.mk' s _ _).trans (e1.trans (Same.mk' s1 h' _))) g3
end
end Mine
end
section
open PySem PySem.W PyProof.Rows PySem.Calls
namespace Mine
theorem at_442_spans (P : Params) : OwnAt P 442 (S "spans") none := ⟨by kernel_rfl, by kernel_rfl, by kernel_rfl, by kernel_rfl⟩
theorem at_222_text (P : Params) : OwnAt P 222 (S "text") none := ⟨by kernel_rfl, by kernel_rfl, by kernel_rfl, by kernel_rfl⟩
theorem at_222_at (P : Params) : OwnAt P 222 (S "at") none := ⟨by kernel_rfl, by kernel_rfl, by kernel_rfl, by kernel_rfl⟩
theorem at_852_cursor (P : Params) : OwnAt P 852 (S "cursor") none := ⟨by kernel_rfl, by kernel_rfl, by kernel_rfl, by kernel_rfl⟩
theorem at_852_is_pattern (P : Params) : OwnAt P 852 (S "is_pattern") none := ⟨by kernel_rfl, by kernel_rfl, by kernel_rfl, by kernel_rfl⟩
theorem at_543_charset (P : Params) : OwnAt P 543 (S "charset") none := ⟨by kernel_rfl, by kernel_rfl, by kernel_rfl, by kernel_rfl⟩
theorem ca_543_name (P : Params) : ClsAttr P 543 (S "name") (s "chars" 978) := ⟨by kernel_rfl, by kernel_rfl, by kernel_rfl, by kernel_rfl, by kernel_rfl, by kernel_rfl⟩
theorem ca_517_name (P : Params) : ClsAttr P 517 (S "name") (s "never" 960) := ⟨by kernel_rfl, by kernel_rfl, by kernel_rfl, by kernel_rfl, by kernel_rfl, by kernel_rfl⟩
theorem me_442_complement (P : Params) : MethAt P 442 (S "complement") 404 := ⟨by kernel_rfl, by kernel_rfl, by kernel_rfl⟩
theorem me_442_size (P : Params) : MethAt P 442 (S "size") 362 := ⟨by kernel_rfl, by kernel_rfl, by kernel_rfl⟩
theorem me_442_least (P : Params) : MethAt P 442 (S "least") 376 := ⟨by kernel_rfl, by kernel_rfl, by kernel_rfl⟩
theorem me_442_is_empty (P : Params) : MethAt P 442 (S "is_empty") 383 := ⟨by kernel_rfl, by kernel_rfl, by kernel_rfl⟩
theorem me_442_same (P : Params) : MethAt P 442 (S "same") 418 := ⟨by kernel_rfl, by kernel_rfl, by kernel_rfl⟩
theorem me_442_key (P : Params) : MethAt P 442 (S "key") 439 := ⟨by kernel_rfl, by kernel_rfl, by kernel_rfl⟩
theorem me_222_is_done (P : Params) : MethAt P 222 (S "is_done") 119 := ⟨by kernel_rfl, by kernel_rfl, by kernel_rfl⟩
theorem me_222_peek (P : Params) : MethAt P 222 (S "peek") 127 := ⟨by kernel_rfl, by kernel_rfl, by kernel_rfl⟩
theorem me_222_starts (P : Params) : MethAt P 222 (S "starts") 134 := ⟨by kernel_rfl, by kernel_rfl, by kernel_rfl⟩
theorem me_222_take (P : Params) : MethAt P 222 (S "take") 141 := ⟨by kernel_rfl, by kernel_rfl, by kernel_rfl⟩
theorem me_222_skip (P : Params) : MethAt P 222 (S "skip") 148 := ⟨by kernel_rfl, by kernel_rfl, by kernel_rfl⟩
theorem me_222_take_while (P : Params) : MethAt P 222 (S "take_while") 155 := ⟨by kernel_rfl, by kernel_rfl, by kernel_rfl⟩
theorem me_222_name (P : Params) : MethAt P 222 (S "name") 177 := ⟨by kernel_rfl, by kernel_rfl, by kernel_rfl⟩
theorem me_222_coded (P : Params) : MethAt P 222 (S "coded") 205 := ⟨by kernel_rfl, by kernel_rfl, by kernel_rfl⟩
theorem me_222_escape (P : Params) : MethAt P 222 (S "escape") 212 := ⟨by kernel_rfl, by kernel_rfl, by kernel_rfl⟩
theorem me_852_failed (P : Params) : MethAt P 852 (S "failed") 746 := ⟨by kernel_rfl, by kernel_rfl, by kernel_rfl⟩
theorem me_852_is_stop (P : Params) : MethAt P 852 (S "is_stop") 760 := ⟨by kernel_rfl, by kernel_rfl, by kernel_rfl⟩
theorem me_852_choice (P : Params) : MethAt P 852 (S "choice") 767 := ⟨by kernel_rfl, by kernel_rfl, by kernel_rfl⟩
theorem me_852_branch (P : Params) : MethAt P 852 (S "branch") 774 := ⟨by kernel_rfl, by kernel_rfl, by kernel_rfl⟩
theorem me_852_looped (P : Params) : MethAt P 852 (S "looped") 781 := ⟨by kernel_rfl, by kernel_rfl, by kernel_rfl⟩
theorem me_852_single (P : Params) : MethAt P 852 (S "single") 802 := ⟨by kernel_rfl, by kernel_rfl, by kernel_rfl⟩
theorem me_852_code_of (P : Params) : MethAt P 852 (S "code_of") 809 := ⟨by kernel_rfl, by kernel_rfl, by kernel_rfl⟩
theorem me_852_sign_class (P : Params) : MethAt P 852 (S "sign_class") 828 := ⟨by kernel_rfl, by kernel_rfl, by kernel_rfl⟩
theorem me_852_named (P : Params) : MethAt P 852 (S "named") 835 := ⟨by kernel_rfl, by kernel_rfl, by kernel_rfl⟩
theorem me_852_span (P : Params) : MethAt P 852 (S "span") 842 := ⟨by kernel_rfl, by kernel_rfl, by kernel_rfl⟩
theorem me_852_member (P : Params) : MethAt P 852 (S "member") 849 := ⟨by kernel_rfl, by kernel_rfl, by kernel_rfl⟩
theorem me_543_told (P : Params) : MethAt P 543 (S "told") 540 := ⟨by kernel_rfl, by kernel_rfl, by kernel_rfl⟩
theorem me_517_told (P : Params) : MethAt P 517 (S "told") 488 := ⟨by kernel_rfl, by kernel_rfl, by kernel_rfl⟩
theorem st_442_made (P : Params) : StatAt P 442 (S "made") 347 345 (.type "type") [.bool false] := ⟨by kernel_rfl, by kernel_rfl, by kernel_rfl, by kernel_rfl, by kernel_rfl⟩
theorem st_442_dot (P : Params) : StatAt P 442 (S "dot") 319 317 (.type "type") [.bool false] := ⟨by kernel_rfl, by kernel_rfl, by kernel_rfl, by kernel_rfl, by kernel_rfl⟩
theorem st_442_span (P : Params) : StatAt P 442 (S "span") 337 335 (.type "type") [.bool false] := ⟨by kernel_rfl, by kernel_rfl, by kernel_rfl, by kernel_rfl, by kernel_rfl⟩
theorem se_46_offset (P : Params) : SetAt P 46 (S "offset") := ⟨by kernel_rfl, by kernel_rfl, by kernel_rfl, by kernel_rfl⟩
theorem se_46_line (P : Params) : SetAt P 46 (S "line") := ⟨by kernel_rfl, by kernel_rfl, by kernel_rfl, by kernel_rfl⟩
theorem se_46_column (P : Params) : SetAt P 46 (S "column") := ⟨by kernel_rfl, by kernel_rfl, by kernel_rfl, by kernel_rfl⟩
theorem se_442_spans (P : Params) : SetAt P 442 (S "spans") := ⟨by kernel_rfl, by kernel_rfl, by kernel_rfl, by kernel_rfl⟩
theorem se_222_text (P : Params) : SetAt P 222 (S "text") := ⟨by kernel_rfl, by kernel_rfl, by kernel_rfl, by kernel_rfl⟩
theorem se_222_at (P : Params) : SetAt P 222 (S "at") := ⟨by kernel_rfl, by kernel_rfl, by kernel_rfl, by kernel_rfl⟩
theorem se_852_cursor (P : Params) : SetAt P 852 (S "cursor") := ⟨by kernel_rfl, by kernel_rfl, by kernel_rfl, by kernel_rfl⟩
theorem se_852_definitions (P : Params) : SetAt P 852 (S "definitions") := ⟨by kernel_rfl, by kernel_rfl, by kernel_rfl, by kernel_rfl⟩
theorem se_852_is_pattern (P : Params) : SetAt P 852 (S "is_pattern") := ⟨by kernel_rfl, by kernel_rfl, by kernel_rfl, by kernel_rfl⟩
theorem se_852_depth (P : Params) : SetAt P 852 (S "depth") := ⟨by kernel_rfl, by kernel_rfl, by kernel_rfl, by kernel_rfl⟩
theorem se_543_charset (P : Params) : SetAt P 543 (S "charset") := ⟨by kernel_rfl, by kernel_rfl, by kernel_rfl, by kernel_rfl⟩
theorem tx_what (P : Params) : takerIn (K P) 95 (S "what") = some none := by kernel_rfl
theorem tx_at (P : Params) : takerIn (K P) 95 (S "at") = some none := by kernel_rfl
end Mine
end
section
open PySem PySem.W PyProof.Rows PySem.Calls
namespace Mine
noncomputable abbrev L (s : String) : List Nat := s.toList.map Char.toNat
theorem ofS_L (s : String) : Str.ofString s = ⟨(L s).toArray⟩ := Str.ofString_eq_toList s
theorem ofS_cps (s : String) : (Str.ofString s).cps.toList = L s := by rw [ofS_L]
theorem iteI {c : Prop} [Decidable c] {A B : Prop} (h1 : c → A) (h2 : ¬ c → B) : if c then A else B := by
 split
 ·exact h1 ‹_›
 ·exact h2 ‹_›
theorem SXs.step {C : Fm} {l : List Stmt} {st : Stmt} {r : List Stmt} {x : HP → Prop} {lc : Loc} {hp : HP} {k : Fl → Loc → HP → Prop} (e : l = st :: r)
  (h : SX C st (fun f lc hp => match f with | .next => SXs C r k x lc hp | f => k f lc hp) x lc hp) : SXs C l k x lc hp := e ▸ SXs.cons h
section
variable {C : Fm} {x : HP → Prop} {lc : Loc} {hp : HP} {k : V → Loc → HP → Prop}
theorem SE.strL {i : String} {kk : Nat} {pos : Pos} (h : k (.str (L i)) lc hp) : SE C (.Constant (.str (Str.ofString i)) kk pos) k x lc hp := SE.str (ofS_cps i) h
theorem SE.loc {n : Str} {pos : Pos} {v : V} {sc : Scope} (hs : C.env.scope = sc) (hl : sc.names.lookup n = some .local) (hd : (n == ("__debug__" : Str)) = false) (hv : lc.lookup n = some v) (h : k v lc hp) : SE C (.Name n pos) k x lc hp :=
 SE.nameL (by rw [hs]; exact hl) hv h hd
theorem SE.gS {n : Str} {pos : Pos} {i : String} {t : Tok} {sc : Scope} (hs : C.env.scope = sc) (hl : sc.names.lookup n = some .globalImplicit) (hd : (n == ("__debug__" : Str)) = false) (hv : nsIn (K C.W.w.params) mainGlobals n = some (some (s i t))) (h : k (.str (L i)) lc hp) : SE C (.Name n pos) k x lc hp :=
 SE.nameG (v := .str (L i)) (by rw [hs]; exact hl) hv (fun Z => ⟨t, by rw [← ofS_L]⟩) h hd
theorem SE.gI {n : Str} {pos : Pos} {i : Int} {t : Tok} {sc : Scope} (hs : C.env.scope = sc) (hl : sc.names.lookup n = some .globalImplicit) (hd : (n == ("__debug__" : Str)) = false) (hv : nsIn (K C.W.w.params) mainGlobals n = some (some (j i t))) (h : k (.int i) lc hp) : SE C (.Name n pos) k x lc hp :=
 SE.nameG (v := .int i) (by rw [hs]; exact hl) hv (fun Z => ⟨t, rfl⟩) h hd
theorem SE.gR {n : Str} {pos : Pos} {a : Addr} {sc : Scope} (hs : C.env.scope = sc) (hl : sc.names.lookup n = some .globalImplicit) (hd : (n == ("__debug__" : Str)) = false) (hv : nsIn (K C.W.w.params) mainGlobals n = some (some (r a))) (h : k (.ref a) lc hp) : SE C (.Name n pos) k x lc hp :=
 SE.nameG (v := .ref a) (by rw [hs]; exact hl) hv (fun Z => rfl) h hd
theorem OpStore.l {n : Str} {v : V} {k : Unit → Loc → HP → Prop} {sc : Scope} (hs : C.env.scope = sc) (hl : sc.names.lookup n = some .local) (h : k () ((n, v) :: lc) hp) : OpStore C n v k x lc hp :=
 OpStore.loc (by rw [hs]; exact hl) h
theorem SE.bi {n : Str} {pos : Pos} {u : Value} {sc : Scope} (hs : C.env.scope = sc) (hl : sc.names.lookup n = some .globalImplicit) (hd : (n == ("__debug__" : Str)) = false) (hv : nsIn (K C.W.w.params) mainGlobals n = some Option.none) (hb : bootBuiltins n = some u) (hn : (n == "__name__") = false) (h : k (.raw u) lc hp) : SE C (.Name n pos) k x lc hp :=
 SE.nameB (by rw [hs]; exact hl) hv hb (fun e => by rw [e] at hn; simp at hn) h hd
theorem SE.cel {n : Str} {pos : Pos} {v : V} {c : Addr} {sc : Scope} {cl : List (Str × Addr)} (hs : C.env.scope = sc) (hl : sc.names.lookup n = some .cell) (hd : (n == ("__debug__" : Str)) = false) (hcs : C.env.cells = cl) (hc : cl.lookup n = some c) (h0 : hp c = some (.cell (some v))) (h : k v lc hp) : SE C (.Name n pos) k x lc hp :=
 SE.nameC (by rw [hs]; exact hl) (by rw [hcs]; exact hc) h0 h hd
theorem OpStore.c {n : Str} {v : V} {v0 : Option V} {c : Addr} {k : Unit → Loc → HP → Prop} {sc : Scope} {cl : List (Str × Addr)} (hs : C.env.scope = sc) (hl : sc.names.lookup n = some .cell) (hcs : C.env.cells = cl) (hc : cl.lookup n = some c) (h0 : hp c = some (.cell v0)) (h : k () lc (hp.set c (.cell (some v)))) : OpStore C n v k x lc hp :=
 OpStore.cel (by rw [hs]; exact hl) (by rw [hcs]; exact hc) h0 h
theorem OpBin.divS {i j : Int} (h0 : j ≠ 0) (hd : j.natAbs < 1073741824) (h : k (.int (i.fdiv j)) lc hp) : OpBin C .FloorDiv (.int i) (.int j) k x lc hp := OpBin.divI h0 (PyProof.noPylong_small hd) h
theorem small_range (a b : Int) (h1 : -1000000000 ≤ a) (h2 : a ≤ 1000000000) (h3 : -1000000000 ≤ b) (h4 : b ≤ 1000000000) : Builtin.Range.small a b 1 = true := by
 unfold Builtin.Range.small Builtin.Range.rangeFitsLong
 rw [rangeSize_one]
 simp only [Bool.and_eq_true, Bool.or_eq_true, decide_eq_true_eq, beq_iff_eq]
 split <;> simp <;> omega
end
end Mine
end
section
open PySem PySem.W PyProof.Rows PySem.Calls
namespace Mine
theorem gl_FIGURES (P : Params) : nsIn (K P) mainGlobals (Str.ofString "FIGURES") = some (some (s "0123456789" 201)) := by kernel_rfl
theorem gl_NAME_SIGNS (P : Params) : nsIn (K P) mainGlobals (Str.ofString "NAME_SIGNS") = some (some (s "abcdefghijklmnopqrstuvwxyzABCDEFGHIJKLMNOPQRSTUVWXYZ_0123456789" 205)) := by kernel_rfl
theorem gl_HEX_SIGNS (P : Params) : nsIn (K P) mainGlobals (Str.ofString "HEX_SIGNS") = some (some (s "0123456789abcdefABCDEF" 208)) := by kernel_rfl
theorem gl_OCTAL_SIGNS (P : Params) : nsIn (K P) mainGlobals (Str.ofString "OCTAL_SIGNS") = some (some (s "01234567" 210)) := by kernel_rfl
theorem gl_PLAIN_ESCAPES (P : Params) : nsIn (K P) mainGlobals (Str.ofString "PLAIN_ESCAPES") = some (some (r 22)) := by kernel_rfl
theorem gl_Position (P : Params) : nsIn (K P) mainGlobals (Str.ofString "Position") = some (some (r 46)) := by kernel_rfl
theorem gl_position_of (P : Params) : nsIn (K P) mainGlobals (Str.ofString "position_of") = some (some (r 57)) := by kernel_rfl
theorem gl_RegexError (P : Params) : nsIn (K P) mainGlobals (Str.ofString "RegexError") = some (some (r 95)) := by kernel_rfl
theorem gl_Cursor (P : Params) : nsIn (K P) mainGlobals (Str.ofString "Cursor") = some (some (r 222)) := by kernel_rfl
theorem gl_hex_escape (P : Params) : nsIn (K P) mainGlobals (Str.ofString "hex_escape") = some (some (r 233)) := by kernel_rfl
theorem gl_escaped_sign (P : Params) : nsIn (K P) mainGlobals (Str.ofString "escaped_sign") = some (some (r 240)) := by kernel_rfl
theorem gl_TOP (P : Params) : nsIn (K P) mainGlobals (Str.ofString "TOP") = some (some (j 127 521)) := by kernel_rfl
theorem gl_HEX (P : Params) : nsIn (K P) mainGlobals (Str.ofString "HEX") = some (some (s "0123456789abcdef" 523)) := by kernel_rfl
theorem gl_BRACKET_SIGNS (P : Params) : nsIn (K P) mainGlobals (Str.ofString "BRACKET_SIGNS") = some (some (s "\\][^-" 525)) := by kernel_rfl
theorem gl_CLASS_SPANS (P : Params) : nsIn (K P) mainGlobals (Str.ofString "CLASS_SPANS") = some (some (r 241)) := by kernel_rfl
theorem gl_CharSet (P : Params) : nsIn (K P) mainGlobals (Str.ofString "CharSet") = some (some (r 442)) := by kernel_rfl
theorem gl_show_code (P : Params) : nsIn (K P) mainGlobals (Str.ofString "show_code") = some (some (r 453)) := by kernel_rfl
theorem gl_told (P : Params) : nsIn (K P) mainGlobals (Str.ofString "told") = some (some (r 460)) := by kernel_rfl
theorem gl_named_class (P : Params) : nsIn (K P) mainGlobals (Str.ofString "named_class") = some (some (r 467)) := by kernel_rfl
theorem gl_MOST_NESTED (P : Params) : nsIn (K P) mainGlobals (Str.ofString "MOST_NESTED") = some (some (j 20 886)) := by kernel_rfl
theorem gl_STRAY_SIGNS (P : Params) : nsIn (K P) mainGlobals (Str.ofString "STRAY_SIGNS") = some (some (s "*+?]}^$/ \t\n" 890)) := by kernel_rfl
theorem gl_NEWLINE (P : Params) : nsIn (K P) mainGlobals (Str.ofString "NEWLINE") = some (some (s "\n" 892)) := by kernel_rfl
theorem gl_Never (P : Params) : nsIn (K P) mainGlobals (Str.ofString "Never") = some (some (r 517)) := by kernel_rfl
theorem gl_Chars (P : Params) : nsIn (K P) mainGlobals (Str.ofString "Chars") = some (some (r 543)) := by kernel_rfl
theorem gl_Alt (P : Params) : nsIn (K P) mainGlobals (Str.ofString "Alt") = some (some (r 600)) := by kernel_rfl
theorem gl_cat_all (P : Params) : nsIn (K P) mainGlobals (Str.ofString "cat_all") = some (some (r 711)) := by kernel_rfl
theorem gl_chars_node (P : Params) : nsIn (K P) mainGlobals (Str.ofString "chars_node") = some (some (r 718)) := by kernel_rfl
theorem gl_RegexReader (P : Params) : nsIn (K P) mainGlobals (Str.ofString "RegexReader") = some (some (r 852)) := by kernel_rfl
theorem gl_read_regex (P : Params) : nsIn (K P) mainGlobals (Str.ofString "read_regex") = some (some (r 864)) := by kernel_rfl
theorem gl_MARKS (P : Params) : nsIn (K P) mainGlobals (Str.ofString "MARKS") = some (some (s "\"[](){}.*+?|^$/<%" 1439)) := by kernel_rfl
theorem gl_LOOSE (P : Params) : nsIn (K P) mainGlobals (Str.ofString "LOOSE") = some (some (j 0 1441)) := by kernel_rfl
theorem gl_show_sign (P : Params) : nsIn (K P) mainGlobals (Str.ofString "show_sign") = some (some (r 871)) := by kernel_rfl
theorem gl_show_chars (P : Params) : nsIn (K P) mainGlobals (Str.ofString "show_chars") = some (some (r 878)) := by kernel_rfl
theorem gl_show_at (P : Params) : nsIn (K P) mainGlobals (Str.ofString "show_at") = some (some (r 890)) := by kernel_rfl
theorem gl_show_regex (P : Params) : nsIn (K P) mainGlobals (Str.ofString "show_regex") = some (some (r 897)) := by kernel_rfl
theorem gl_law_figures (P : Params) : nsIn (K P) mainGlobals (Str.ofString "_law_figures") = some (some (s "0123456789abcdef" 1484)) := by kernel_rfl
theorem gl_law_pen (P : Params) : nsIn (K P) mainGlobals (Str.ofString "_law_pen") = some (some (r 902)) := by kernel_rfl
theorem gl_law_draw (P : Params) : nsIn (K P) mainGlobals (Str.ofString "_law_draw") = some (some (r 909)) := by kernel_rfl
theorem gl_law_words (P : Params) : nsIn (K P) mainGlobals (Str.ofString "_law_words") = some (some (r 914)) := by kernel_rfl
theorem gl_law_held (P : Params) : nsIn (K P) mainGlobals (Str.ofString "_law_held") = some (some (r 919)) := by kernel_rfl
theorem gl_law_spans (P : Params) : nsIn (K P) mainGlobals (Str.ofString "_law_spans") = some (some (r 926)) := by kernel_rfl
theorem gl_law_hex (P : Params) : nsIn (K P) mainGlobals (Str.ofString "_law_hex") = some (some (r 933)) := by kernel_rfl
theorem gl_law_inner (P : Params) : nsIn (K P) mainGlobals (Str.ofString "_law_inner") = some (some (r 940)) := by kernel_rfl
theorem gl_law_shown (P : Params) : nsIn (K P) mainGlobals (Str.ofString "_law_shown") = some (some (r 947)) := by kernel_rfl
theorem gl_law_spelled (P : Params) : nsIn (K P) mainGlobals (Str.ofString "_law_spelled") = some (some (r 954)) := by kernel_rfl
theorem gl_law_class (P : Params) : nsIn (K P) mainGlobals (Str.ofString "_law_class") = some (some (r 959)) := by kernel_rfl
theorem gl_law_heard (P : Params) : nsIn (K P) mainGlobals (Str.ofString "_law_heard") = some (some (r 966)) := by kernel_rfl
theorem gl_law_refused (P : Params) : nsIn (K P) mainGlobals (Str.ofString "_law_refused") = some (some (r 971)) := by kernel_rfl
theorem gb_chr (P : Params) : nsIn (K P) mainGlobals (Str.ofString "chr") = some none := by kernel_rfl
theorem bb_chr : bootBuiltins (Str.ofString "chr") = some (.builtin "chr") := by kernel_rfl
theorem gb_ord (P : Params) : nsIn (K P) mainGlobals (Str.ofString "ord") = some none := by kernel_rfl
theorem bb_ord : bootBuiltins (Str.ofString "ord") = some (.builtin "ord") := by kernel_rfl
theorem gb_len (P : Params) : nsIn (K P) mainGlobals (Str.ofString "len") = some none := by kernel_rfl
theorem bb_len : bootBuiltins (Str.ofString "len") = some (.builtin "len") := by kernel_rfl
theorem gb_range (P : Params) : nsIn (K P) mainGlobals (Str.ofString "range") = some none := by kernel_rfl
theorem bb_range : bootBuiltins (Str.ofString "range") = some (.type "range") := by kernel_rfl
theorem gb_max (P : Params) : nsIn (K P) mainGlobals (Str.ofString "max") = some none := by kernel_rfl
theorem bb_max : bootBuiltins (Str.ofString "max") = some (.builtin "max") := by kernel_rfl
theorem gb_min (P : Params) : nsIn (K P) mainGlobals (Str.ofString "min") = some none := by kernel_rfl
theorem bb_min : bootBuiltins (Str.ofString "min") = some (.builtin "min") := by kernel_rfl
theorem gb_sorted (P : Params) : nsIn (K P) mainGlobals (Str.ofString "sorted") = some none := by kernel_rfl
theorem bb_sorted : bootBuiltins (Str.ofString "sorted") = some (.builtin "sorted") := by kernel_rfl
theorem gb_tuple (P : Params) : nsIn (K P) mainGlobals (Str.ofString "tuple") = some none := by kernel_rfl
theorem bb_tuple : bootBuiltins (Str.ofString "tuple") = some (.type "tuple") := by kernel_rfl
theorem gb_list (P : Params) : nsIn (K P) mainGlobals (Str.ofString "list") = some none := by kernel_rfl
theorem bb_list : bootBuiltins (Str.ofString "list") = some (.type "list") := by kernel_rfl
theorem gb_int (P : Params) : nsIn (K P) mainGlobals (Str.ofString "int") = some none := by kernel_rfl
theorem bb_int : bootBuiltins (Str.ofString "int") = some (.type "int") := by kernel_rfl
theorem gb_abs (P : Params) : nsIn (K P) mainGlobals (Str.ofString "abs") = some none := by kernel_rfl
theorem bb_abs : bootBuiltins (Str.ofString "abs") = some (.builtin "abs") := by kernel_rfl
theorem gb_Exception (P : Params) : nsIn (K P) mainGlobals (Str.ofString "Exception") = some none := by kernel_rfl
theorem bb_Exception : bootBuiltins (Str.ofString "Exception") = some (.type "Exception") := by kernel_rfl
end Mine
end
section
open PySem PySem.W PyProof.Rows PySem.Calls
namespace Mine
section
variable {C : Fm} {x : HP → Prop} {lc : Loc} {hp : HP} {k : V → Loc → HP → Prop}
structure MkAt (P : Params) (c fI : Addr) : Prop where
 hm : makesIn (K P) c = true
 hi : findIn (K P) (.ref c) "__init__" = some (some (.ref fI))
 hf : isFn (K P) (.ref fI) = true
theorem OpCall.clsF {c fI : Addr} {fd : FuncData} {body : List Stmt} {ns : List Str} {nv : Nat} {vs ds : List V} {dvs : List Value} (rm : Nat)
  (mk : MkAt C.W.w.params c fI) (G : FnOk C.W.w.params fI fd body ns nv dvs) (G2 : FnLoc fd ns) (hnv : vs.length + 1 = nv) (hds : ∀ Z, denL C.W Z ds dvs) (hrm : rm + 1 < C.rm) (w : V)
  (hb : ∀ a, hp a = none → ∀ C', Callee C C' fd rm → SXs C' body (fun fl _ hp' => retV fl = .none ∧ ∃ o, hp' = hp.set a o ∧ frz o = some w) (fun _ => False) (ns.zip (.ref a :: vs ++ ds)) (hp.set a (.inst c [] [])))
  (h : k w lc hp) : OpCall C (.ref c) vs k x lc hp := by
 refine Tri.outF (OpCall.cls rm mk.hm mk.hi mk.hf G G2 hnv hds hrm fun a ha C' hC => (hb a ha C' hC).mono ?_ fun _ hf => hf.elim)
 intro fl lc' hp' ⟨h1, o, h2, h3⟩
 refine ⟨h1, a, o, w, hp, rfl, ?_, h3, ?_, h⟩
 ·rw [h2]; exact HP.set_get ..
 ·rw [h2]; exact HP.le_del_set ha
theorem OpCall.clsM {c fI : Addr} {fd : FuncData} {body : List Stmt} {ns : List Str} {nv : Nat} {vs ds : List V} {dvs : List Value} (rm : Nat)
  (mk : MkAt C.W.w.params c fI) (G : FnOk C.W.w.params fI fd body ns nv dvs) (G2 : FnLoc fd ns) (hnv : vs.length + 1 = nv) (hds : ∀ Z, denL C.W Z ds dvs) (hrm : rm + 1 < C.rm)
  (hb : ∀ a, hp a = none → ∀ C', Callee C C' fd rm → SXs C' body (fun fl _ hp' => retV fl = .none ∧ k (.ref a) lc hp') x (ns.zip (.ref a :: vs ++ ds)) (hp.set a (.inst c [] []))) : OpCall C (.ref c) vs k x lc hp :=
 OpCall.cls rm mk.hm mk.hi mk.hf G G2 hnv hds hrm hb
theorem OpCall.cls0 {c : Addr} (hm : makesIn (K C.W.w.params) c = true) (hi : findIn (K C.W.w.params) (.ref c) "__init__" = some (some (.builtin "object.__init__"))) (h : k (.inst c [] []) lc hp) : OpCall C (.ref c) [] k x lc hp := by
 intro Z s Q E us ok R d n y
 simp only [denL] at d
 obtain ⟨fu, us', rfl, d1, rfl⟩ := d
 obtain rfl : fu = .ref c := d1
 obtain ⟨m, mu, fo, X, l⟩ := R
 refine call_cls0 X.F ok.wok.X X.N hm hi fun a dx h' F' N' l1 l2 => ?_
 have nk : ∀ p ∈ mu.map (·.2) ++ fo, p.1 ≠ a ∧ p.1 ≠ dx := fun p hp => by
  have := l1 p (List.mem_append_right _ hp)
  exact ⟨Nat.ne_of_lt (Nat.lt_trans this l2), Nat.ne_of_lt this⟩
 have X2 : RelX C ((a, instObj c dx) :: (dx, dictOf [] 0) :: Z) hp h' m mu fo := ⟨F', N', X.nd, fun p hp q => by
  obtain ⟨r, r1, r2⟩ := List.mem_map.mp q
  rcases List.mem_cons.mp hp with rfl | hp
  ·exact (nk r r1).1 r2
  ·rcases List.mem_cons.mp hp with rfl | hp
   ·exact (nk r r1).2 r2
   ·exact X.dj p hp q, X.pr, fun b ob e => by
   obtain ⟨key, ob', m1, c⟩ := X.hp b ob e
   exact ⟨key, ob', m1, c.mono fun _ q => .tail _ (.tail _ q)⟩⟩
 refine n _ (.inst c [] []) _ lc hp _ (fun _ q => .tail _ (.tail _ q)) ?_ ⟨m, mu, fo, X2, l.mono fun _ q => .tail _ (.tail _ q)⟩ (Same.mk' s h' s.toks) h
 simp only [den]
 exact ⟨a, dx, [], 0, rfl, .inr (.head _), .inr (.tail _ (.head _)), rfl, rfl⟩
theorem mk_46 (P : Params) : MkAt P 46 36 := ⟨by kernel_rfl, by kernel_rfl, by kernel_rfl⟩
theorem mk_442 (P : Params) : MkAt P 442 290 := ⟨by kernel_rfl, by kernel_rfl, by kernel_rfl⟩
theorem mk_222 (P : Params) : MkAt P 222 112 := ⟨by kernel_rfl, by kernel_rfl, by kernel_rfl⟩
theorem mk_852 (P : Params) : MkAt P 852 739 := ⟨by kernel_rfl, by kernel_rfl, by kernel_rfl⟩
theorem mk_543 (P : Params) : MkAt P 543 533 := ⟨by kernel_rfl, by kernel_rfl, by kernel_rfl⟩
theorem m0_517 (P : Params) : makesIn (K P) 517 = true := by kernel_rfl
theorem i0_517 (P : Params) : findIn (K P) (.ref 517) "__init__" = some (some (.builtin "object.__init__")) := by kernel_rfl
end
end Mine
end
section
open PySem PySem.W PyProof.Rows PySem.Calls
namespace Mine
noncomputable abbrev prs (sp : List (Int × Int)) : V := .tup (sp.map prV)
noncomputable abbrev csV (sp : List (Int × Int)) : V := .inst 442 [S "spans"] [prs sp]
noncomputable abbrev cur (t : List Nat) (at_ : Int) : O := .inst 222 [S "text", S "at"] [.str t, .int at_]
noncomputable abbrev rdr (c : Addr) : O := .inst 852 [S "cursor", S "definitions", S "is_pattern", S "depth"] [.ref c, .none, .bool false, .int 0]
noncomputable abbrev chV (sp : List (Int × Int)) : V := .inst 543 [S "charset"] [csV sp]
noncomputable abbrev nvV : V := .inst 517 [] []
theorem HP.get_ne {hp : HP} {a b : Addr} {o o' : O} (h : a ≠ b) (e : hp a = some o) : (hp.set b o') a = some o := by
 unfold HP.set
 rw [if_neg h]
 exact e
theorem HP.set_comm {hp : HP} {a b : Addr} {o o' : O} (h : a ≠ b) : (hp.set a o).set b o' = (hp.set b o').set a o := by
 funext y
 unfold HP.set
 by_cases q : y = b
 ·rw [if_pos q, if_neg (by rw [q]; exact fun z => h z.symm), if_pos q]
 ·by_cases q2 : y = a
  ·rw [if_neg q, if_pos q2, if_pos q2]
  ·rw [if_neg q, if_neg q2, if_neg q2, if_neg q]
theorem HP.ne_of {hp : HP} {a b : Addr} {o : O} (h : hp a = none) (e : hp b = some o) : b ≠ a := fun q => by rw [q, h] at e; cases e
theorem HP.set_none {hp : HP} {a b : Addr} {o : O} (h : (hp.set b o) a = none) : hp a = none ∧ a ≠ b := by
 unfold HP.set at h
 by_cases q : a = b
 ·rw [if_pos q] at h; cases h
 ·rw [if_neg q] at h; exact ⟨h, q⟩
section
variable {C : Fm} {x : HP → Prop} {lc : Loc} {hp : HP} {k : V → Loc → HP → Prop} {ku : Unit → Loc → HP → Prop}
theorem lk1 {n : Str} {v : V} {ns : List Str} {vs : List V} : lookF n (n :: ns) (v :: vs) = some v := by simp [lookF]
theorem lk2 {n m : Str} {v : V} {ns : List Str} {vs : List V} (h : m ≠ n) : lookF n (m :: ns) (v :: vs) = lookF n ns vs := by simp [lookF, h]
theorem a_spans {sp : List (Int × Int)} (h : k (prs sp) lc hp) : OpAttr C (csV sp) (S "spans") k x lc hp := OpAttr.own IsInst.f (at_442_spans _) lk1 rfl h
theorem a_charset {sp : List (Int × Int)} (h : k (csV sp) lc hp) : OpAttr C (chV sp) (S "charset") k x lc hp := OpAttr.own IsInst.f (at_543_charset _) lk1 rfl h
theorem a_nameC {sp : List (Int × Int)} (h : k (.str (L "chars")) lc hp) : OpAttr C (chV sp) (S "name") k x lc hp := OpAttr.cls (w := .str (L "chars")) IsInst.f (ca_543_name _) (by rw [lk2 (by decide)]; rfl) (fun Z => ⟨_, by rw [← ofS_L]⟩) h
theorem a_nameN (h : k (.str (L "never")) lc hp) : OpAttr C nvV (S "name") k x lc hp := OpAttr.cls (w := .str (L "never")) IsInst.f (ca_517_name _) rfl (fun Z => ⟨_, by rw [← ofS_L]⟩) h
variable {c r : Addr} {t : List Nat} {i : Int}
theorem a_text (h : k (.str t) lc (hp.set c (cur t i))) : OpAttr C (.ref c) (S "text") k x lc (hp.set c (cur t i)) := OpAttr.own (IsInst.m (HP.set_get ..)) (at_222_text _) lk1 rfl h
theorem a_at (h : k (.int i) lc (hp.set c (cur t i))) : OpAttr C (.ref c) (S "at") k x lc (hp.set c (cur t i)) := OpAttr.own (IsInst.m (HP.set_get ..)) (at_222_at _) ((lk2 (by decide)).trans lk1) rfl h
theorem s_at {j : Int} (h : ku () lc (hp.set c (cur t j))) : OpSetAttr C (.ref c) (S "at") (.int j) ku x lc (hp.set c (cur t i)) := by
 refine OpSetAttr.own (HP.set_get ..) (se_222_at _) (by simp) ?_
 rw [HP.set_set]
 have e : putF (S "at") (.int j) [S "text", S "at"] [.str t, .int i] = ([S "text", S "at"], [.str t, .int j]) := by
  have h1 : S "text" ≠ S "at" := by decide
  simp [putF, h1]
 rw [e]; exact h
theorem a_cursor {o : O} (hr : hp r = some (rdr c)) (hn : r ≠ c) (h : k (.ref c) lc (hp.set c o)) : OpAttr C (.ref r) (S "cursor") k x lc (hp.set c o) := OpAttr.own (IsInst.m (HP.get_ne hn hr)) (at_852_cursor _) lk1 rfl h
theorem a_isp {o : O} (hr : hp r = some (rdr c)) (hn : r ≠ c) (h : k (.bool false) lc (hp.set c o)) : OpAttr C (.ref r) (S "is_pattern") k x lc (hp.set c o) := OpAttr.own (IsInst.m (HP.get_ne hn hr)) (at_852_is_pattern _) ((lk2 (by decide)).trans ((lk2 (by decide)).trans lk1)) rfl h
variable {km : V × List V → Loc → HP → Prop}
theorem m_cs {sp : List (Int × Int)} {n : Str} {f : Addr} (o : MethAt C.W.w.params 442 n f) (hn : S "spans" ≠ n) (h : km (.ref f, [csV sp]) lc hp) : OpMeth C (csV sp) n km x lc hp := OpMeth.inst IsInst.f o (by rw [lk2 hn]; rfl) h
theorem m_ch {sp : List (Int × Int)} {n : Str} {f : Addr} (o : MethAt C.W.w.params 543 n f) (hn : S "charset" ≠ n) (h : km (.ref f, [chV sp]) lc hp) : OpMeth C (chV sp) n km x lc hp := OpMeth.inst IsInst.f o (by rw [lk2 hn]; rfl) h
theorem m_nv {n : Str} {f : Addr} (o : MethAt C.W.w.params 517 n f) (h : km (.ref f, [nvV]) lc hp) : OpMeth C nvV n km x lc hp := OpMeth.inst IsInst.f o rfl h
theorem m_cur {n : Str} {f : Addr} (o : MethAt C.W.w.params 222 n f) (h1 : S "text" ≠ n) (h2 : S "at" ≠ n) (h : km (.ref f, [.ref c]) lc (hp.set c (cur t i))) : OpMeth C (.ref c) n km x lc (hp.set c (cur t i)) := OpMeth.inst (IsInst.m (HP.set_get ..)) o (by rw [lk2 h1, lk2 h2]; rfl) h
theorem m_rdr {n : Str} {f : Addr} {ob : O} (o : MethAt C.W.w.params 852 n f) (h1 : S "cursor" ≠ n) (h2 : S "definitions" ≠ n) (h3 : S "is_pattern" ≠ n) (h4 : S "depth" ≠ n) (hr : hp r = some (rdr c)) (hn : r ≠ c) (h : km (.ref f, [.ref r]) lc (hp.set c ob)) : OpMeth C (.ref r) n km x lc (hp.set c ob) := OpMeth.inst (IsInst.m (HP.get_ne hn hr)) o (by rw [lk2 h1, lk2 h2, lk2 h3, lk2 h4]; rfl) h
end
end Mine
end
section
open PySem PySem.W PyProof.Rows PySem.Calls
namespace Mine
structure Done (p : Prop) : Prop where
 out : p
section
variable {C : Fm} {x : HP → Prop} {lc : Loc} {hp : HP}
theorem ST.orM {e : PySem.Expr} {r : List PySem.Expr} {pos : Pos} {b1 b2 : Bool} {kb : Bool → Loc → HP → Prop} {wh : Sem Value} (h1 : ∀ kb : Bool → Loc → HP → Prop, kb b1 lc hp → ST C e (eval e C.env) kb x lc hp)
  (h2 : b1 = false → ∀ kb : Bool → Loc → HP → Prop, kb b2 lc hp → ST C (.BoolOp .Or r pos) wh kb x lc hp) (h : kb (b1 || b2) lc hp) : ST C (.BoolOp .Or (e :: r) pos) wh kb x lc hp := by
 refine ST.or (h1 _ ?_)
 cases b1 with
 | true => rw [if_pos rfl]; exact h
 | false => rw [if_neg (by decide)]; exact h2 rfl _ h
theorem ST.andM {e : PySem.Expr} {r : List PySem.Expr} {pos : Pos} {b1 b2 : Bool} {kb : Bool → Loc → HP → Prop} {wh : Sem Value} (h1 : ∀ kb : Bool → Loc → HP → Prop, kb b1 lc hp → ST C e (eval e C.env) kb x lc hp)
  (h2 : b1 = true → ∀ kb : Bool → Loc → HP → Prop, kb b2 lc hp → ST C (.BoolOp .And r pos) wh kb x lc hp) (h : kb (b1 && b2) lc hp) : ST C (.BoolOp .And (e :: r) pos) wh kb x lc hp := by
 refine ST.and (h1 _ ?_)
 cases b1 with
 | true => rw [if_pos rfl]; exact h2 rfl _ h
 | false => rw [if_neg (by decide)]; exact h
theorem SE.cmp2M {l r1 r2 : PySem.Expr} {o1 o2 : CmpOp} {pos : Pos} {k : V → Loc → HP → Prop} {a b c : V} {b1 b2 : Bool} (h0 : ∀ k : V → Loc → HP → Prop, k a lc hp → SE C l k x lc hp) (h1 : ∀ k : V → Loc → HP → Prop, k b lc hp → SE C r1 k x lc hp)
  (h2 : ∀ k : V → Loc → HP → Prop, k (.bool b1) lc hp → OpCmp C o1 a b k x lc hp) (h3 : ∀ k : V → Loc → HP → Prop, k c lc hp → SE C r2 k x lc hp) (h4 : ∀ k : V → Loc → HP → Prop, k (.bool b2) lc hp → OpCmp C o2 b c k x lc hp)
  (h : k (.bool (b1 && b2)) lc hp) (hm : lastMarks [o1, o2] [r1, r2] = false) : SE C (.Compare l [o1, o2] [r1, r2] pos) k x lc hp := by
 refine SE.cmp2 (h0 _ (h1 _ (h2 _ (OpTruth.bool ?_)))) hm
 cases b1 with
 | true => rw [if_pos rfl]; exact h3 _ (h4 _ h)
 | false => rw [if_neg (by decide)]; exact h
theorem ST.cmp2M {l r1 r2 : PySem.Expr} {o1 o2 : CmpOp} {pos : Pos} {kb : Bool → Loc → HP → Prop} {wh : Sem Value} {a b c : V} {b1 b2 : Bool} (h0 : ∀ k : V → Loc → HP → Prop, k a lc hp → SE C l k x lc hp) (h1 : ∀ k : V → Loc → HP → Prop, k b lc hp → SE C r1 k x lc hp)
  (h2 : ∀ k : V → Loc → HP → Prop, k (.bool b1) lc hp → OpCmp C o1 a b k x lc hp) (h3 : ∀ k : V → Loc → HP → Prop, k c lc hp → SE C r2 k x lc hp) (h4 : ∀ k : V → Loc → HP → Prop, k (.bool b2) lc hp → OpCmp C o2 b c k x lc hp)
  (h : kb (b1 && b2) lc hp) (hm : lastMarks [o1, o2] [r1, r2] = false) : ST C (.Compare l [o1, o2] [r1, r2] pos) wh kb x lc hp := by
 refine ST.cmp2 (h0 _ (h1 _ (h2 _ (OpTruth.bool ?_)))) hm
 cases b1 with
 | true => rw [if_pos rfl]; exact h3 _ (h4 _ (OpTruth.bool h))
 | false => rw [if_neg (by decide)]; exact h
theorem SE.ifM {t a b : PySem.Expr} {pos : Pos} {bt : Bool} {va vb : V} {k : V → Loc → HP → Prop} (h1 : ∀ kb : Bool → Loc → HP → Prop, kb bt lc hp → ST C t (eval t C.env) kb x lc hp)
  (ha : bt = true → ∀ k : V → Loc → HP → Prop, k va lc hp → SE C a k x lc hp) (hb : bt = false → ∀ k : V → Loc → HP → Prop, k vb lc hp → SE C b k x lc hp) (h : k (if bt = true then va else vb) lc hp) : SE C (.IfExp t a b pos) k x lc hp := by
 refine SE.ifexp (h1 _ ?_)
 cases bt with
 | true => rw [if_pos rfl]; rw [if_pos rfl] at h; exact ha rfl _ h
 | false => rw [if_neg (by decide)]; rw [if_neg (by decide)] at h; exact hb rfl _ h
theorem SE.ifS {t a b : PySem.Expr} {pos : Pos} {bt : Bool} {va vb : List Nat} {k : V → Loc → HP → Prop} (h1 : ∀ kb : Bool → Loc → HP → Prop, kb bt lc hp → ST C t (eval t C.env) kb x lc hp)
  (ha : bt = true → ∀ k : V → Loc → HP → Prop, k (.str va) lc hp → SE C a k x lc hp) (hb : bt = false → ∀ k : V → Loc → HP → Prop, k (.str vb) lc hp → SE C b k x lc hp) (h : k (.str (if bt = true then va else vb)) lc hp) : SE C (.IfExp t a b pos) k x lc hp := by
 refine SE.ifM h1 ha hb ?_
 rw [show (if bt = true then V.str va else V.str vb) = V.str (if bt = true then va else vb) by split <;> rfl]
 exact h
theorem SE.ifI {t a b : PySem.Expr} {pos : Pos} {bt : Bool} {va vb : Int} {k : V → Loc → HP → Prop} (h1 : ∀ kb : Bool → Loc → HP → Prop, kb bt lc hp → ST C t (eval t C.env) kb x lc hp)
  (ha : bt = true → ∀ k : V → Loc → HP → Prop, k (.int va) lc hp → SE C a k x lc hp) (hb : bt = false → ∀ k : V → Loc → HP → Prop, k (.int vb) lc hp → SE C b k x lc hp) (h : k (.int (if bt = true then va else vb)) lc hp) : SE C (.IfExp t a b pos) k x lc hp := by
 refine SE.ifM h1 ha hb ?_
 rw [show (if bt = true then V.int va else V.int vb) = V.int (if bt = true then va else vb) by split <;> rfl]
 exact h
theorem SX.forD {k : Fl → Loc → HP → Prop} {target iter : PySem.Expr} {body : List Stmt} {pos : Pos}
  (h : SE C iter (fun v lc hp => Done (∃ (l : List V) (I : Nat → Loc → HP → Prop), IterV C v l ∧ I 0 lc hp ∧
   (∀ i y lc hp, l[i]? = some y → I i lc hp → OpAssign C target y (fun _ lc hp => SXs C body (fun fl lc hp => match fl with | .next => I (i + 1) lc hp | .cont => I (i + 1) lc hp | .brk => k .next lc hp | .ret v => k (.ret v) lc hp) x lc hp) x lc hp) ∧
   (∀ lc hp, I l.length lc hp → k .next lc hp))) x lc hp)
  (hs : ∀ v, foldedSetIterable iter C.env v = pure v) (ht : C.top = true) : SX C (.For target iter body [] pos) k x lc hp :=
 SX.for_ (Tri.mono h (fun _ _ _ d => d.out) fun _ q => q) hs ht
theorem Tri.outD {α β : Type} {rel : Led → β → α → Prop} {vs : List V} {f : List Value → Sem α} {k : β → Loc → HP → Prop}
  (h : Tri C rel vs f (fun b lc2 hp2 => Done (∃ hp', HP.le hp' hp2 ∧ k b lc2 hp')) (fun hp2 => Done (∃ hp', HP.le hp' hp2 ∧ x hp')) lc hp) : Tri C rel vs f k x lc hp :=
 Tri.out (Tri.mono h (fun _ _ _ d => d.out) fun _ d => d.out)
theorem Tri.outFD {vs : List V} {f : List Value → Sem Value} {k : V → Loc → HP → Prop}
  (h : Tri C (den C.W) vs f (fun v lc2 hp2 => Done (∃ a o w hp', v = .ref a ∧ hp2 a = some o ∧ frz o = some w ∧ HP.le hp' (hp2.del a) ∧ k w lc2 hp')) (fun hp2 => Done (∃ hp', HP.le hp' hp2 ∧ x hp')) lc hp) : Tri C (den C.W) vs f k x lc hp :=
 Tri.outF (Tri.mono h (fun _ _ _ d => d.out) fun _ d => d.out)
theorem OpCall.clsD {k : V → Loc → HP → Prop} {c fI : Addr} {fd : FuncData} {body : List Stmt} {ns : List Str} {nv : Nat} {vs ds : List V} {dvs : List Value} (rm : Nat)
  (mk : MkAt C.W.w.params c fI) (G : FnOk C.W.w.params fI fd body ns nv dvs) (G2 : FnLoc fd ns) (hnv : vs.length + 1 = nv) (hds : ∀ Z, denL C.W Z ds dvs) (hrm : rm + 1 < C.rm) (w : V)
  (hb : ∀ a, hp a = none → ∀ C', Callee C C' fd rm → SXs C' body (fun fl _ hp' => Done (retV fl = .none ∧ ∃ o, hp' = hp.set a o ∧ frz o = some w)) (fun _ => False) (ns.zip (.ref a :: vs ++ ds)) (hp.set a (.inst c [] [])))
  (h : k w lc hp) : OpCall C (.ref c) vs k x lc hp :=
 OpCall.clsF rm mk G G2 hnv hds hrm w (fun a ha C' hC => Tri.mono (hb a ha C' hC) (fun _ _ _ d => d.out) fun _ q => q) h
theorem OpCall.clsMD {k : V → Loc → HP → Prop} {c fI : Addr} {fd : FuncData} {body : List Stmt} {ns : List Str} {nv : Nat} {vs ds : List V} {dvs : List Value} (rm : Nat)
  (mk : MkAt C.W.w.params c fI) (G : FnOk C.W.w.params fI fd body ns nv dvs) (G2 : FnLoc fd ns) (hnv : vs.length + 1 = nv) (hds : ∀ Z, denL C.W Z ds dvs) (hrm : rm + 1 < C.rm)
  (hb : ∀ a, hp a = none → ∀ C', Callee C C' fd rm → SXs C' body (fun fl _ hp' => Done (retV fl = .none ∧ k (.ref a) lc hp')) x (ns.zip (.ref a :: vs ++ ds)) (hp.set a (.inst c [] []))) : OpCall C (.ref c) vs k x lc hp :=
 OpCall.clsM rm mk G G2 hnv hds hrm fun a ha C' hC => Tri.mono (hb a ha C' hC) (fun _ _ _ d => d.out) fun _ q => q
theorem SX.exprF {k : Fl → Loc → HP → Prop} {e : PySem.Expr} {pos : Pos} (h : SE C e (fun v lc hp => k .next lc hp) x lc hp) (h2 : swapsWith e none pos.line C.env = pure false) : SX C (.Expr e pos) k x lc hp := by
 intro Z s Q E us ok R d n y
 refine SX.expr h ?_ h2 Z s Q E us ok R d n y
 unfold interactive
 rw [ok.hk]
 rfl
noncomputable def MC (C : Fm) (f : V) (l : List V) (args : List PySem.Expr) (pos : Pos) (k : V → Loc → HP → Prop) (x : HP → Prop) (lc : Loc) (hp : HP) : Prop :=
 CallOk C.W.w.params f ∧ SL C args pos (fun vs lc hp => OpCall C f (l ++ vs) k x lc hp) x lc hp
theorem SE.mcallM {k : V → Loc → HP → Prop} {o : PySem.Expr} {name : Str} {args : List PySem.Expr} {apos pos : Pos} {pl : Sem Bool}
  (h : SE C o (fun ov lc hp => OpMeth C ov name (fun fp lc hp => MC C fp.1 fp.2 args pos k x lc hp) x lc hp) x lc hp)
  (he : eval (.Call (.Attribute o name apos) args [] pos) C.env = (do
   let ov ← eval o C.env
   standAt apos.atName
   let (f, first) ← holding [ov] (getMethod ov name pl)
   callWith pos f first (backTo pos (starEach args C.env)) []))
  (pa : PlainArgs C.env args) : SE C (.Call (.Attribute o name apos) args [] pos) k x lc hp := SE.mcall h he pa
theorem MC.ref1 {k : V → Loc → HP → Prop} {a : Addr} {v : V} {args : List PySem.Expr} {pos : Pos} (h1 : keepIn (K C.W.w.params) (.ref a) = true) (h : SL C args pos (fun vs lc hp => OpCall C (.ref a) (v :: vs) k x lc hp) x lc hp) : MC C (.ref a) [v] args pos k x lc hp := ⟨.ref h1, h⟩
theorem MC.ref0 {k : V → Loc → HP → Prop} {a : Addr} {args : List PySem.Expr} {pos : Pos} (h1 : keepIn (K C.W.w.params) (.ref a) = true) (h : SL C args pos (fun vs lc hp => OpCall C (.ref a) vs k x lc hp) x lc hp) : MC C (.ref a) [] args pos k x lc hp := ⟨.ref h1, h⟩
theorem MC.bi1 {k : V → Loc → HP → Prop} {n : String} {v : V} {args : List PySem.Expr} {pos : Pos} (h : SL C args pos (fun vs lc hp => OpCall C (.raw (.builtin n)) (v :: vs) k x lc hp) x lc hp) : MC C (.raw (.builtin n)) [v] args pos k x lc hp := ⟨.bi, h⟩
theorem MC.bi0 {k : V → Loc → HP → Prop} {n : String} {args : List PySem.Expr} {pos : Pos} (h : SL C args pos (fun vs lc hp => OpCall C (.raw (.builtin n)) vs k x lc hp) x lc hp) : MC C (.raw (.builtin n)) [] args pos k x lc hp := ⟨.bi, h⟩
theorem OpSub.pr0 {k : V → Loc → HP → Prop} {value slice : PySem.Expr} {p : Int × Int} (h : k (.int p.1) lc hp) : OpSub C value slice (prV p) (.int 0) k x lc hp := OpSub.tup (by simp) rfl h
theorem OpSub.pr1 {k : V → Loc → HP → Prop} {value slice : PySem.Expr} {p : Int × Int} (h : k (.int p.2) lc hp) : OpSub C value slice (prV p) (.int 1) k x lc hp := OpSub.tup (by simp) rfl h
noncomputable def lastP (l : List (Int × Int)) : Int × Int := l.getLast?.getD (0, 0)
theorem at_last {l : List (Int × Int)} (h : (!(l.map prV).isEmpty) = true) : at? (l.map prV) (-1) = some (prV (lastP l)) := by
 have h : l ≠ [] := fun z => by rw [z] at h; simp at h
 have hl : 0 < l.length := List.length_pos_iff.mpr h
 unfold at?
 rw [if_pos (by omega), if_pos (by simp; exact os13 hl)]
 rw [List.getElem?_map]
 have e : (-1 + ((l.map prV).length : Int)).toNat = l.length - 1 := by simp; exact of0
 rw [e]
 unfold lastP
 rw [List.getLast?_eq_getElem?, List.getElem?_eq_getElem (by exact om7 hl)]
 rfl
theorem OpSub.last {k : V → Loc → HP → Prop} {value slice : PySem.Expr} {l : List (Int × Int)} {v : V} (i : IsLst hp v (l.map prV)) (hz : l.length ≤ 1048576) (hn : (!(l.map prV).isEmpty) = true) (h : k (prV (lastP l)) lc hp) : OpSub C value slice v (.int (-1)) k x lc hp :=
 OpSub.lst i (by rw [List.length_map]; exact ow10 hz) (at_last hn) h
theorem OpSetItem.last {l : List (Int × Int)} {a : Addr} {i0 j0 : Int} {k : Unit → Loc → HP → Prop} (i : hp a = some (.list (l.map prV))) (hz : l.length ≤ 1048576) (hn : (!(l.map prV).isEmpty) = true) (h : k () lc (hp.set a (.list ((l.set (l.length - 1) (i0, j0)).map prV)))) : OpSetItem C (.ref a) (.int (-1)) (.tup [.int i0, .int j0]) k x lc hp := by
 have h' : l ≠ [] := fun z => by rw [z] at hn; simp at hn
 have hl : 0 < l.length := List.length_pos_iff.mpr h'
 refine OpSetItem.lst i (by rw [List.length_map]; exact oa12 hl) (by rw [List.length_map]; exact oa11) (by rw [List.length_map]; exact on12 hz) ?_
 rw [List.map_set] at h
 have e : idx (l.map prV).length (-1) = l.length - 1 := by unfold idx; rw [if_pos (by omega), List.length_map]; exact of0
 rw [e]
 exact h
theorem OpCall.joinL {k : V → Loc → HP → Prop} {v : V} {ts : List (List Nat)} (il : IsLst hp v (ts.map .str)) (hz : (ts.map (·.length)).sum + ts.length ≤ 1048576) (h : k (.str ts.flatten) lc hp) : OpCall C (.raw (.builtin "str.join")) [.str (L ""), v] k x lc hp := OpCall.join il hz h
theorem SX.whileD {test : PySem.Expr} {body : List Stmt} {pos : Pos} {k : Fl → Loc → HP → Prop} (ht : C.top = true)
  (h : Done (∃ (I : Nat → Loc → HP → Prop) (n0 : Nat), I n0 lc hp ∧ ∀ n lc hp, I n lc hp → ST C test (eval test C.env) (fun b lc hp => if b = true then SXs C body (fun fl lc hp => match fl with | .next => Done (∃ m, m < n ∧ I m lc hp) | .cont => Done (∃ m, m < n ∧ I m lc hp) | .brk => k .next lc hp | .ret v => k (.ret v) lc hp) x lc hp else k .next lc hp) x lc hp)) :
  SX C (.While test body [] pos) k x lc hp := by
 obtain ⟨I, n0, h0, turn⟩ := h.out
 refine SX.while_ ht I n0 h0 fun n lc hp hi => (turn n lc hp hi).mono (fun b lc hp q => ?_) fun _ q => q
 cases b with
 | false => simpa using q
 | true =>
  simp only [if_true] at q ⊢
  refine Tri.mono q (fun fl lc hp r => ?_) fun _ q => q
  cases fl <;> first | exact r.out | exact r
noncomputable def AsI (v : V) (k : Int → Prop) : Prop := ∃ i, v = .int i ∧ k i
theorem AsI.mk {i : Int} {k : Int → Prop} (h : k i) : AsI (.int i) k := ⟨i, rfl, h⟩
theorem OptE.so {e : PySem.Expr} {k : Option Int → Loc → HP → Prop} (h : SE C e (fun v lc hp => AsI v fun i => k (some i) lc hp) x lc hp) : OptE C (some e) k x lc hp := h
theorem OptE.no {k : Option Int → Loc → HP → Prop} (h : k none lc hp) : OptE C none k x lc hp := h
theorem SX.raiseD {e : PySem.Expr} {pos : Pos} {k : Fl → Loc → HP → Prop} (h : SE C e (fun v lc hp => Done (∃ a od, v = .ref a ∧ hp a = some (.exc od) ∧ x (hp.del a))) x lc hp) : SX C (.Raise (some e) none pos) k x lc hp :=
 SX.raise_ (Tri.mono h (fun _ _ _ d => d.out) fun _ q => q)
theorem OpCall.str127 {k : V → Loc → HP → Prop} (h : k (.str (L "127")) lc hp) : OpCall C (.raw (.type "str")) [.int 127] k x lc hp := by
 intro Z s Q E us ok R d nn y
 obtain ⟨_, _, rfl, rfl, ⟨t, rfl⟩⟩ := den2 d
 refine P.str_of_int (by decide) (nn Z (.str (L "127")) _ lc hp _ (sub_refl Z) ⟨s.toks, ?_⟩ R (Same.mk' ..) h)
 rw [← ofS_L]
 rfl
end
theorem gb_str (P : Params) : nsIn (K P) mainGlobals (Str.ofString "str") = some none := by kernel_rfl
theorem bb_str : bootBuiltins (Str.ofString "str") = some (.type "str") := by kernel_rfl
section
variable {C : Fm} {x : HP → Prop} {lc : Loc} {hp : HP}
end
theorem iteT {b : Bool} {A B : Prop} (h : b = true) (a : A) : if b = true then A else B := by rw [if_pos h]; exact a
theorem iteF {b : Bool} {A B : Prop} (h : b = false) (a : B) : if b = true then A else B := by rw [if_neg (by rw [h]; decide)]; exact a
end Mine
end
section
open PySem PySem.W PyProof.Rows PySem.Calls
namespace Mine
theorem den_pr {W : Wd} (ok : WOk W) {a : Addr} {i i' : Int} {t t' : Tok} (e : (K W.w.params).lookup a = some (tp [j i t, j i' t'])) (Z : Led) : den W Z (prV (i, i')) (r a) := by
 simp only [prV, den]
 exact ⟨a, _, _, 0, rfl, Has.ofK ok e, rfl, rfl, _, _, rfl, ⟨_, rfl⟩, _, _, rfl, ⟨_, rfl⟩, rfl⟩
theorem den_prs {W : Wd} (ok : WOk W) {a : Addr} {sp : List (Int × Int)} {l : List Value} {Z : Led} (e : (K W.w.params).lookup a = some (tp l)) (d : denL W Z (sp.map prV) l) : den W Z (prs sp) (r a) := by
 simp only [den]
 exact ⟨a, _, _, 0, rfl, Has.ofK ok e, rfl, rfl, d⟩
theorem denL_cons {W : Wd} {Z : Led} {y : V} {v : Value} {ys : List V} {vs : List Value} (d : den W Z y v) (D : denL W Z ys vs) : denL W Z (y :: ys) (v :: vs) := ⟨v, vs, rfl, d, D⟩
theorem denD_cons {W : Wd} {Z : Led} {x : String} {t : Tok} {y : V} {v : Value} {ks : List (List Nat)} {ys : List V} {es : List DictEntry} (d : den W Z y v) (D : denD W Z ks ys es) : denD W Z (L x :: ks) (y :: ys) (e W.w.params x t v :: es) :=
 ⟨L x, ks, t, v, es, rfl, by rw [← ofS_L], d, D⟩
noncomputable def escK : List (List Nat) := [L "n", L "t", L "r", L "f", L "v", L "a", L "b"]
noncomputable def escV : List V := [.int 10, .int 9, .int 13, .int 12, .int 11, .int 7, .int 8]
theorem den_esc {W : Wd} (ok : WOk W) (Z : Led) : den W Z (.dict escK escV) (r 22) := by
 simp only [den]
 exact ⟨22, _, 7, rfl, by decide, Has.ofK ok (o := o22 W.w.params) (by kernel_rfl), denD_cons ⟨_, rfl⟩ (denD_cons ⟨_, rfl⟩ (denD_cons ⟨_, rfl⟩ (denD_cons ⟨_, rfl⟩ (denD_cons ⟨_, rfl⟩ (denD_cons ⟨_, rfl⟩ (denD_cons ⟨_, rfl⟩ ⟨rfl, rfl⟩))))))⟩
theorem kd_244 {W : Wd} (ok : WOk W) (Z : Led) : den W Z (prs [(65, 90), (97, 122)]) (r 244) := den_prs ok (a := 244) (by kernel_rfl) (denL_cons (den_pr ok (a := 242) (t := 528) (t' := 529) (by kernel_rfl) Z) (denL_cons (den_pr ok (a := 243) (t := 530) (t' := 531) (by kernel_rfl) Z) rfl))
theorem kd_246 {W : Wd} (ok : WOk W) (Z : Led) : den W Z (prs [(48, 57)]) (r 246) := den_prs ok (a := 246) (by kernel_rfl) (denL_cons (den_pr ok (a := 245) (t := 533) (t' := 534) (by kernel_rfl) Z) rfl)
theorem kd_250 {W : Wd} (ok : WOk W) (Z : Led) : den W Z (prs [(48, 57), (65, 90), (97, 122)]) (r 250) := den_prs ok (a := 250) (by kernel_rfl) (denL_cons (den_pr ok (a := 247) (t := 536) (t' := 537) (by kernel_rfl) Z) (denL_cons (den_pr ok (a := 248) (t := 538) (t' := 539) (by kernel_rfl) Z) (denL_cons (den_pr ok (a := 249) (t := 540) (t' := 541) (by kernel_rfl) Z) rfl)))
theorem kd_252 {W : Wd} (ok : WOk W) (Z : Led) : den W Z (prs [(65, 90)]) (r 252) := den_prs ok (a := 252) (by kernel_rfl) (denL_cons (den_pr ok (a := 251) (t := 543) (t' := 544) (by kernel_rfl) Z) rfl)
theorem kd_254 {W : Wd} (ok : WOk W) (Z : Led) : den W Z (prs [(97, 122)]) (r 254) := den_prs ok (a := 254) (by kernel_rfl) (denL_cons (den_pr ok (a := 253) (t := 546) (t' := 547) (by kernel_rfl) Z) rfl)
theorem kd_257 {W : Wd} (ok : WOk W) (Z : Led) : den W Z (prs [(9, 13), (32, 32)]) (r 257) := den_prs ok (a := 257) (by kernel_rfl) (denL_cons (den_pr ok (a := 255) (t := 549) (t' := 550) (by kernel_rfl) Z) (denL_cons (den_pr ok (a := 256) (t := 551) (t' := 552) (by kernel_rfl) Z) rfl))
theorem kd_260 {W : Wd} (ok : WOk W) (Z : Led) : den W Z (prs [(9, 9), (32, 32)]) (r 260) := den_prs ok (a := 260) (by kernel_rfl) (denL_cons (den_pr ok (a := 258) (t := 554) (t' := 555) (by kernel_rfl) Z) (denL_cons (den_pr ok (a := 259) (t := 556) (t' := 557) (by kernel_rfl) Z) rfl))
theorem kd_265 {W : Wd} (ok : WOk W) (Z : Led) : den W Z (prs [(33, 47), (58, 64), (91, 96), (123, 126)]) (r 265) := den_prs ok (a := 265) (by kernel_rfl) (denL_cons (den_pr ok (a := 261) (t := 559) (t' := 560) (by kernel_rfl) Z) (denL_cons (den_pr ok (a := 262) (t := 561) (t' := 562) (by kernel_rfl) Z) (denL_cons (den_pr ok (a := 263) (t := 563) (t' := 564) (by kernel_rfl) Z) (denL_cons (den_pr ok (a := 264) (t := 565) (t' := 566) (by kernel_rfl) Z) rfl))))
theorem kd_269 {W : Wd} (ok : WOk W) (Z : Led) : den W Z (prs [(48, 57), (65, 70), (97, 102)]) (r 269) := den_prs ok (a := 269) (by kernel_rfl) (denL_cons (den_pr ok (a := 266) (t := 568) (t' := 569) (by kernel_rfl) Z) (denL_cons (den_pr ok (a := 267) (t := 570) (t' := 571) (by kernel_rfl) Z) (denL_cons (den_pr ok (a := 268) (t := 572) (t' := 573) (by kernel_rfl) Z) rfl)))
theorem kd_272 {W : Wd} (ok : WOk W) (Z : Led) : den W Z (prs [(0, 31), (127, 127)]) (r 272) := den_prs ok (a := 272) (by kernel_rfl) (denL_cons (den_pr ok (a := 270) (t := 575) (t' := 576) (by kernel_rfl) Z) (denL_cons (den_pr ok (a := 271) (t := 577) (t' := 578) (by kernel_rfl) Z) rfl))
theorem kd_274 {W : Wd} (ok : WOk W) (Z : Led) : den W Z (prs [(32, 126)]) (r 274) := den_prs ok (a := 274) (by kernel_rfl) (denL_cons (den_pr ok (a := 273) (t := 580) (t' := 581) (by kernel_rfl) Z) rfl)
theorem kd_276 {W : Wd} (ok : WOk W) (Z : Led) : den W Z (prs [(33, 126)]) (r 276) := den_prs ok (a := 276) (by kernel_rfl) (denL_cons (den_pr ok (a := 275) (t := 583) (t' := 584) (by kernel_rfl) Z) rfl)
noncomputable def clsK : List (List Nat) := [L "alpha", L "digit", L "alnum", L "upper", L "lower", L "space", L "blank", L "punct", L "xdigit", L "cntrl", L "print", L "graph"]
noncomputable def clsS : List (List (Int × Int)) := [[(65, 90), (97, 122)], [(48, 57)], [(48, 57), (65, 90), (97, 122)], [(65, 90)], [(97, 122)], [(9, 13), (32, 32)], [(9, 9), (32, 32)], [(33, 47), (58, 64), (91, 96), (123, 126)], [(48, 57), (65, 70), (97, 102)], [(0, 31), (127, 127)], [(32, 126)], [(33, 126)]]
noncomputable def clsV : List V := [prs [(65, 90), (97, 122)], prs [(48, 57)], prs [(48, 57), (65, 90), (97, 122)], prs [(65, 90)], prs [(97, 122)], prs [(9, 13), (32, 32)], prs [(9, 9), (32, 32)], prs [(33, 47), (58, 64), (91, 96), (123, 126)], prs [(48, 57), (65, 70), (97, 102)], prs [(0, 31), (127, 127)], prs [(32, 126)], prs [(33, 126)]]
theorem den_cls {W : Wd} (ok : WOk W) (Z : Led) : den W Z (.dict clsK clsV) (r 241) := by
 simp only [den]
 exact ⟨241, _, 12, rfl, by decide, Has.ofK ok (o := o241 W.w.params) (by kernel_rfl), (denD_cons (kd_244 ok Z) (denD_cons (kd_246 ok Z) (denD_cons (kd_250 ok Z) (denD_cons (kd_252 ok Z) (denD_cons (kd_254 ok Z) (denD_cons (kd_257 ok Z) (denD_cons (kd_260 ok Z) (denD_cons (kd_265 ok Z) (denD_cons (kd_269 ok Z) (denD_cons (kd_272 ok Z) (denD_cons (kd_274 ok Z) (denD_cons (kd_276 ok Z) ⟨rfl, rfl⟩))))))))))))⟩
theorem escK_nd : escK.Nodup := by decide +kernel
theorem clsK_nd : clsK.Nodup := by decide +kernel
end Mine
end
section
open PySem PySem.W PyProof.Rows PySem.Calls
namespace Mine
noncomputable def relabelS (scope sc : Scope) : Scope :=
 { scope with names := scope.names.map fun (n, k) => if (k == .free && sc.kind == .function && sc.names.lookup n == some .cell) then (n, .cell) else (n, k) }
structure CompS (C : Fm) (scope sc : Scope) (cl : List (Str × Addr)) (C' : Fm) : Prop where
 W : C'.W = C.W
 sc : C'.env.scope = relabelS scope sc
 cl : C'.env.cells = cl
 rm : C'.rm = C.rm
section
variable {C : Fm} {x : HP → Prop} {lc : Loc} {hp : HP} {k : V → Loc → HP → Prop}
theorem CTest.no {kb : Bool → Loc → HP → Prop} (h : kb true lc hp) : CTest C [] kb x lc hp := h
theorem CTest.one {c : PySem.Expr} {kb : Bool → Loc → HP → Prop} (h : ST C c (eval c C.env) kb x lc hp) : CTest C [c] kb x lc hp := h
theorem CTest.mono {ifs : List PySem.Expr} {kb kb' : Bool → Loc → HP → Prop} (h : CTest C ifs kb x lc hp) (hk : ∀ b lc hp, kb b lc hp → kb' b lc hp) : CTest C ifs kb' x lc hp := by
 match ifs, h with
 | [], h => exact hk _ _ _ h
 | [c], h => exact Tri.mono (show Tri .. from h) hk fun _ q => q
 | _ :: _ :: _, h => exact h
theorem SE_compD {elt iter : PySem.Expr} {ifs : List PySem.Expr} {scope sc : Scope} {cl : List (Str × Addr)} {n : Str} {p pos : Pos} (hs0 : C.env.scope = sc)
  (h : SE C iter (fun v lc hp => Done (∃ (l : List V) (f : V → V) (q : V → Bool), IterV C v l ∧ l.length ≤ 1048576 ∧
   (∀ C' hp' y, CompS C scope sc cl C' → HP.le hp hp' → y ∈ l →
    CTest C' ifs (fun b lc2 hp2 => Done (hp2 = hp' ∧ b = q y ∧ (b = true → SE C' elt (fun v _ hp3 => Done (hp3 = hp' ∧ v = f y)) (fun _ => False) lc2 hp2))) (fun _ => False) [(n, y)] hp') ∧
   k (.lst ((l.filter q).map f)) lc hp)) x lc hp)
  (hs : ∀ v, foldedSetIterable iter C.env v = pure v) (hclos : closureFor scope C.env = pure cl) (hkind : scope.kind = .function) (hcell : ∀ y ∈ scope.names, y.2 ≠ .cell)
  (hnames : ∀ y ∈ scope.names, y.2 = .local → scope.names.lookup y.1 = some .local) (hx : scope.names.lookup n = some .local) : SE C (.ListComp elt [⟨.Name n p, iter, ifs, 0⟩] scope pos) k x lc hp := by
 refine SE_listComp (Tri.mono h (fun v lc hp d => ?_) fun _ q => q) hs hclos hkind hcell hnames hx
 obtain ⟨l, f, q, h1, h2, h3, h4⟩ := d.out
 refine ⟨l, f, q, h1, h2, fun C' hp' y hC hl hy => ?_, h4⟩
 refine CTest.mono (h3 C' hp' y ⟨hC.W, hC.sc.trans (by rw [← hs0]; rfl), hC.cl, hC.rm⟩ hl hy) fun b lc2 hp2 d => ?_
 obtain ⟨g1, g2, g3⟩ := d.out
 exact ⟨g1, g2, fun hb => Tri.mono (g3 hb) (fun _ _ _ d => d.out) fun _ q => q⟩
theorem names_of {sc : Scope} (h1 : (sc.names.all fun y => y.2 != .cell) = true) (h2 : (sc.names.all fun y => y.2 != .local || sc.names.lookup y.1 == some .local) = true) : (∀ y ∈ sc.names, y.2 ≠ .cell) ∧ ∀ y ∈ sc.names, y.2 = .local → sc.names.lookup y.1 = some .local := by
 refine ⟨fun y hy => by simpa using List.all_eq_true.mp h1 y hy, fun y hy e => ?_⟩
 have := List.all_eq_true.mp h2 y hy
 rw [e] at this
 simpa using this
theorem SE_compQ {elt iter : PySem.Expr} {ifs : List PySem.Expr} {scope sc : Scope} {cl : List (Str × Addr)} {n : Str} {p pos : Pos} (hs0 : C.env.scope = sc)
  (h : SE C iter (fun v lc hp => Done (∃ (l : List V) (f : V → V) (q : V → Bool), IterV C v l ∧ l.length ≤ 1048576 ∧
   (∀ C' hp' y, CompS C scope sc cl C' → HP.le hp hp' → y ∈ l →
    CTest C' ifs (fun b lc2 hp2 => Done (hp2 = hp' ∧ b = q y ∧ (b = true → SE C' elt (fun v _ hp3 => Done (hp3 = hp' ∧ v = f y)) (fun _ => False) lc2 hp2))) (fun _ => False) [(n, y)] hp') ∧
   k (.lst ((l.filter q).map f)) lc hp)) x lc hp)
  (hs : ∀ v, foldedSetIterable iter C.env v = pure v) (hclos : closureFor scope C.env = pure cl) (hk : (scope.kind == .function && ((scope.names.all fun y => y.2 != .cell) && ((scope.names.all fun y => y.2 != .local || scope.names.lookup y.1 == some .local) && scope.names.lookup n == some .local))) = true) : SE C (.ListComp elt [⟨.Name n p, iter, ifs, 0⟩] scope pos) k x lc hp := by
 simp only [Bool.and_eq_true] at hk
 obtain ⟨a, b, c, d⟩ := hk
 obtain ⟨e1, e2⟩ := names_of b c
 exact SE_compD hs0 h hs hclos (by simpa using a) e1 e2 (by simpa using d)
end
section
variable {C : Fm} {x : HP → Prop} {lc : Loc} {hp : HP}
theorem SX.swap3D {elts : List PySem.Expr} {kk : Nat} {p pos : Pos} {e : PySem.Expr} {n1 n2 n3 : Str} {k : Fl → Loc → HP → Prop}
  (h : SE C e (fun v lc hp => Done (∃ a b c, v = .tup [a, b, c] ∧ OpStore C n3 c (fun _ lc hp => OpStore C n2 b (fun _ lc hp => OpStore C n1 a (fun _ lc hp => k .next lc hp) x lc hp) x lc hp) x lc hp)) x lc hp)
  (h1 : swapsWithSole [.Tuple elts kk p] e pos.line C.env = pure false) (h2 : swappedStores [.Tuple elts kk p] e C.env = pure (some [n1, n2, n3])) : SX C (.Assign [.Tuple elts kk p] e pos) k x lc hp :=
 SX.assignSwap3 (Tri.mono h (fun _ _ _ d => d.out) fun _ q => q) h1 h2
theorem SE.dictD {k : V → Loc → HP → Prop} {keys : List (Option PySem.Expr)} {values : List PySem.Expr} {pos : Pos} (hall : keys.all (·.isSome) = true) (hl : keys.length = values.length) (h0 : keys ≠ []) (hlen : keys.length ≤ 15)
  (h : ∀ a, hp a = Option.none → SP C keys values pos (fun ps lc2 hp2 => Done (hp2 a = some (.dict [] []) ∧ (ps.map (·.1)).Nodup ∧ k (.ref a) lc2 (hp2.set a (.dict (ps.map (·.1)) (ps.map (·.2)))))) x lc (hp.set a (.dict [] []))) : SE C (.Dict keys values pos) k x lc hp :=
 SE.dict hall hl h0 hlen fun a ha => Tri.mono (h a ha) (fun _ _ _ d => d.out) fun _ q => q
end
noncomputable abbrev KF := Fl → Loc → HP → Prop
noncomputable abbrev KV := V → Loc → HP → Prop
noncomputable abbrev KU := Unit → Loc → HP → Prop
noncomputable abbrev KL := List V → Loc → HP → Prop
noncomputable abbrev KB := Bool → Loc → HP → Prop
section
variable (C : Fm) (x : HP → Prop)
noncomputable abbrev kSq (r : List Stmt) (k : KF) : KF := fun f lc hp => match f with | .next => SXs C r k x lc hp | f => k f lc hp
noncomputable abbrev kR (k : KF) : KV := fun v lc hp => k (.ret v) lc hp
noncomputable abbrev kX (k : KF) : KV := fun _ lc hp => k .next lc hp
noncomputable abbrev kU (k : KF) : KU := fun _ lc hp => k .next lc hp
noncomputable abbrev kAs (n : Str) (k : KF) : KV := fun v lc hp => OpStore C n v (kU k) x lc hp
noncomputable abbrev kI (b o : List Stmt) (k : KF) : KB := fun c lc hp => if c = true then SXs C b k x lc hp else SXs C o k x lc hp
noncomputable abbrev kA3 (n : Str) (v : V) (k : KF) : KV := fun ov lc hp => OpSetAttr C ov n v (kU k) x lc hp
noncomputable abbrev kA2 (o : PySem.Expr) (n : Str) (k : KF) : KV := fun v lc hp => SE C o (kA3 C x n v k) x lc hp
noncomputable abbrev kQ3 (ov v : V) (k : KF) : KV := fun iv lc hp => OpSetItem C ov iv v (kU k) x lc hp
noncomputable abbrev kQ2 (i : PySem.Expr) (v : V) (k : KF) : KV := fun ov lc hp => SE C i (kQ3 C x ov v k) x lc hp
noncomputable abbrev kQ (o i : PySem.Expr) (k : KF) : KV := fun v lc hp => SE C o (kQ2 C x i v k) x lc hp
noncomputable abbrev kB2 (op : Operator) (a : V) (k : KV) : KV := fun b lc hp => OpBin C op a b k x lc hp
noncomputable abbrev kB (r : PySem.Expr) (op : Operator) (k : KV) : KV := fun a lc hp => SE C r (kB2 C x op a k) x lc hp
noncomputable abbrev kN (op : UnaryOp) (k : KV) : KV := fun b lc hp => OpUn C op b k x lc hp
noncomputable abbrev kC2 (op : CmpOp) (a : V) (k : KV) : KV := fun b lc hp => OpCmp C op a b k x lc hp
noncomputable abbrev kC (r : PySem.Expr) (op : CmpOp) (k : KV) : KV := fun a lc hp => SE C r (kC2 C x op a k) x lc hp
noncomputable abbrev kE (a b : PySem.Expr) (k : KV) : KB := fun c lc hp => if c = true then SE C a k x lc hp else SE C b k x lc hp
noncomputable abbrev kL3 (value : PySem.Expr) (lo hi : Option PySem.Expr) (p : Pos) (v : V) (a : Option Int) (k : KV) : Option Int → Loc → HP → Prop := fun b lc hp => OpSlice C value (.Slice lo hi Option.none p) v a b k x lc hp
noncomputable abbrev kL2 (value : PySem.Expr) (lo hi : Option PySem.Expr) (p : Pos) (v : V) (k : KV) : Option Int → Loc → HP → Prop := fun a lc hp => OptE C hi (kL3 C x value lo hi p v a k) x lc hp
noncomputable abbrev kL (value : PySem.Expr) (lo hi : Option PySem.Expr) (p : Pos) (k : KV) : KV := fun v lc hp => OptE C lo (kL2 C x value lo hi p v k) x lc hp
noncomputable abbrev kI1 (k : Option Int → Loc → HP → Prop) : KV := fun v lc hp => AsI v fun i => k (some i) lc hp
noncomputable abbrev kD2 (a b : PySem.Expr) (v : V) (k : KV) : KV := fun i lc hp => OpSub C a b v i k x lc hp
noncomputable abbrev kD (a b : PySem.Expr) (k : KV) : KV := fun v lc hp => SE C b (kD2 C x a b v k) x lc hp
noncomputable abbrev kAr (n : Str) (k : KV) : KV := fun a lc hp => OpAttr C a n k x lc hp
noncomputable abbrev kTp (k : KV) : KL := fun vs lc hp => OpNewTup C vs k x lc hp
noncomputable abbrev kLs (k : KV) : KL := fun vs lc hp => OpNewList C vs k x lc hp
noncomputable abbrev kC0 (f : V) (k : KV) : KL := fun vs lc hp => OpCall C f vs k x lc hp
noncomputable abbrev kC1 (f v : V) (k : KV) : KL := fun vs lc hp => OpCall C f (v :: vs) k x lc hp
noncomputable abbrev kM2 (args : List PySem.Expr) (pos : Pos) (k : KV) : V × List V → Loc → HP → Prop := fun fp lc hp => MC C fp.1 fp.2 args pos k x lc hp
noncomputable abbrev kM (name : Str) (args : List PySem.Expr) (pos : Pos) (k : KV) : KV := fun ov lc hp => OpMeth C ov name (kM2 C x args pos k) x lc hp
noncomputable abbrev kF (args : List PySem.Expr) (pos : Pos) (k : KV) : KV := fun f lc hp => CallOk C.W.w.params f ∧ SL C args pos (kC0 C x f k) x lc hp
noncomputable abbrev kG2 (k : KL) (v : V) : KL := fun vs lc hp => k (v :: vs) lc hp
noncomputable abbrev kG (r : List PySem.Expr) (pos : Pos) (k : KL) : KV := fun v lc hp => SL C r pos (kG2 k v) x lc hp
noncomputable abbrev kTa (r : List PySem.Expr) (pos : Pos) (wh : Sem Value) (kb : KB) : KB := fun c lc hp => if c = true then ST C (.BoolOp .And r pos) wh kb x lc hp else kb false lc hp
noncomputable abbrev kTo (r : List PySem.Expr) (pos : Pos) (wh : Sem Value) (kb : KB) : KB := fun c lc hp => if c = true then kb true lc hp else ST C (.BoolOp .Or r pos) wh kb x lc hp
noncomputable abbrev kTn (kb : KB) : KB := fun b lc hp => kb (!b) lc hp
noncomputable abbrev kTr (kb : KB) : KV := fun v lc hp => OpTruth C v kb x lc hp
noncomputable abbrev kO (e : PySem.Expr) (b : V) (k : KU) : KU := fun _ lc hp => OpAssign C e b k x lc hp
noncomputable abbrev kW (body : List Stmt) (k : KF) : KU := fun _ lc hp => SXs C body k x lc hp
end
noncomputable abbrev kFo (I : Nat → Loc → HP → Prop) (i : Nat) (k : KF) : KF := fun fl lc hp => match fl with | .next => I (i + 1) lc hp | .cont => I (i + 1) lc hp | .brk => k .next lc hp | .ret v => k (.ret v) lc hp
section
variable {C : Fm} {x : HP → Prop} {lc : Loc} {hp : HP} {k : KV} {kf : KF} {kb : KB} {ku : KU} {kl : KL} {wh : Sem Value}
theorem SXs.stepK {l : List Stmt} {st : Stmt} {r : List Stmt} (e : l = st :: r) (h : SX C st (kSq C x r kf) x lc hp) : SXs C l kf x lc hp := SXs.step e h
theorem SX.ifK {t : PySem.Expr} {b o : List Stmt} {pos : Pos} (h : ST C t (eval t C.env) (kI C x b o kf) x lc hp) : SX C (.If t b o pos) kf x lc hp := SX.if_ h
theorem SX.retK {e : PySem.Expr} {pos : Pos} (h : SE C e (kR kf) x lc hp) : SX C (.Return (some e) pos) kf x lc hp := SX.ret h
theorem SX.exprK {e : PySem.Expr} {pos : Pos} (h : SE C e (kX kf) x lc hp) (h2 : swapsWith e none pos.line C.env = pure false) : SX C (.Expr e pos) kf x lc hp := SX.exprF h h2
theorem SX.assignK {n : Str} {p pos : Pos} {e : PySem.Expr} (h : SE C e (kAs C x n kf) x lc hp) (h2 : swapsWith e (some (.Name n p)) pos.line C.env = pure false) : SX C (.Assign [.Name n p] e pos) kf x lc hp := SX.assign h h2
theorem SX.attrK {o : PySem.Expr} {n : Str} {p pos : Pos} {e : PySem.Expr} (h : SE C e (kA2 C x o n kf) x lc hp) (h2 : swapsWith e (some (.Attribute o n p)) pos.line C.env = pure false) : SX C (.Assign [.Attribute o n p] e pos) kf x lc hp := SX.assignAttr h h2
theorem SX.subK {o i : PySem.Expr} {p pos : Pos} {e : PySem.Expr} (h : SE C e (kQ C x o i kf) x lc hp) (h2 : swapsWith e (some (.Subscript o i p)) pos.line C.env = pure false) : SX C (.Assign [.Subscript o i p] e pos) kf x lc hp := SX.assignSub h h2
theorem SE.binK {l r : PySem.Expr} {op : Operator} {pos : Pos} (h : SE C l (kB C x r op k) x lc hp) : SE C (.BinOp l op r pos) k x lc hp := SE.bin h
theorem SE.unK {r : PySem.Expr} {op : UnaryOp} {pos : Pos} (h : SE C r (kN C x op k) x lc hp) : SE C (.UnaryOp op r pos) k x lc hp := SE.un h
theorem SE.cmpK {l r : PySem.Expr} {op : CmpOp} {pos : Pos} (h : SE C l (kC C x r op k) x lc hp) (hm : behindInMarks op r = false) : SE C (.Compare l [op] [r] pos) k x lc hp := SE.cmp h hm
theorem SE.ifK {t a b : PySem.Expr} {pos : Pos} (h : ST C t (eval t C.env) (kE C x a b k) x lc hp) : SE C (.IfExp t a b pos) k x lc hp := SE.ifexp h
theorem SE.sliceK {value : PySem.Expr} {lo hi : Option PySem.Expr} {p pos : Pos} (h : SE C value (kL C x value lo hi p k) x lc hp) : SE C (.Subscript value (.Slice lo hi Option.none p) pos) k x lc hp := SE.slice h
theorem SE.subK {a b : PySem.Expr} {pos : Pos} (h : SE C a (kD C x a b k) x lc hp) : SE C (.Subscript a b pos) k x lc hp := SE.sub h
theorem SE.attrK {e : PySem.Expr} {n : Str} {pos : Pos} (h : SE C e (kAr C x n k) x lc hp)
  (h2 : eval (.Attribute e n pos) C.env = (do let o ← eval e C.env; standAt pos.atName; let r ← holding [o] (getAttr o n true); letTemporaryGo e o r; pure r)) : SE C (.Attribute e n pos) k x lc hp := SE.attr h h2
theorem SE.tupK {l : List PySem.Expr} {n : Nat} {pos : Pos} (h : SL C l pos (kTp C x k) x lc hp) : SE C (.Tuple l n pos) k x lc hp := SE.tup h
theorem SE.listK {l : List PySem.Expr} {pos : Pos} (h : SL C l pos (kLs C x k) x lc hp) : SE C (.List l pos) k x lc hp := SE.list h
theorem SE.mcallK {o : PySem.Expr} {name : Str} {args : List PySem.Expr} {apos pos : Pos} {pl : Sem Bool} (h : SE C o (kM C x name args pos k) x lc hp)
  (he : eval (.Call (.Attribute o name apos) args [] pos) C.env = (do
   let ov ← eval o C.env
   standAt apos.atName
   let (f, first) ← holding [ov] (getMethod ov name pl)
   callWith pos f first (backTo pos (starEach args C.env)) []))
  (pa : PlainArgs C.env args) : SE C (.Call (.Attribute o name apos) args [] pos) k x lc hp := SE.mcallM h he pa
theorem SE.callK {func : PySem.Expr} {args : List PySem.Expr} {pos : Pos} (h : SE C func (kF C x args pos k) x lc hp)
  (he : eval (.Call func args [] pos) C.env = (do callWith pos (← eval func C.env) [] (backTo pos (starEach args C.env)) (backToKw pos (keywordEach [] C.env))))
  (pa : PlainArgs C.env args) : SE C (.Call func args [] pos) k x lc hp := SE.call h he pa
theorem MC.r1K {a : Addr} {v : V} {args : List PySem.Expr} {pos : Pos} (h1 : keepIn (K C.W.w.params) (.ref a) = true) (h : SL C args pos (kC1 C x (.ref a) v k) x lc hp) : MC C (.ref a) [v] args pos k x lc hp := MC.ref1 h1 h
theorem MC.r0K {a : Addr} {args : List PySem.Expr} {pos : Pos} (h1 : keepIn (K C.W.w.params) (.ref a) = true) (h : SL C args pos (kC0 C x (.ref a) k) x lc hp) : MC C (.ref a) [] args pos k x lc hp := MC.ref0 h1 h
theorem MC.b1K {n : String} {v : V} {args : List PySem.Expr} {pos : Pos} (h : SL C args pos (kC1 C x (.raw (.builtin n)) v k) x lc hp) : MC C (.raw (.builtin n)) [v] args pos k x lc hp := MC.bi1 h
theorem MC.b0K {n : String} {args : List PySem.Expr} {pos : Pos} (h : SL C args pos (kC0 C x (.raw (.builtin n)) k) x lc hp) : MC C (.raw (.builtin n)) [] args pos k x lc hp := MC.bi0 h
theorem SL.consK {e : PySem.Expr} {r : List PySem.Expr} {pos : Pos} (h : SE C e (kG C x r pos kl) x lc hp) (h2 : starEach (e :: r) C.env = (false, eval e C.env) :: starEach r C.env) : SL C (e :: r) pos kl x lc hp := SL.cons h h2
theorem OptE.soK {e : PySem.Expr} {k : Option Int → Loc → HP → Prop} (h : SE C e (kI1 k) x lc hp) : OptE C (some e) k x lc hp := OptE.so h
theorem ST.andK {e : PySem.Expr} {r : List PySem.Expr} {pos : Pos} (h : ST C e (eval e C.env) (kTa C x r pos wh kb) x lc hp) : ST C (.BoolOp .And (e :: r) pos) wh kb x lc hp := ST.and h
theorem ST.orK {e : PySem.Expr} {r : List PySem.Expr} {pos : Pos} (h : ST C e (eval e C.env) (kTo C x r pos wh kb) x lc hp) : ST C (.BoolOp .Or (e :: r) pos) wh kb x lc hp := ST.or h
theorem ST.notK {e : PySem.Expr} {pos : Pos} (h : ST C e (eval e C.env) (kTn kb) x lc hp) : ST C (.UnaryOp .Not e pos) wh kb x lc hp := ST.not h
theorem ST.plainK {e : PySem.Expr} (h : SE C e (kTr C x kb) x lc hp) (h2 : isTrue e C.env (eval e C.env) = (do let v ← eval e C.env; standAt e.pos; holding [v] (truthy v))) : ST C e (eval e C.env) kb x lc hp := ST.plain h h2
theorem ST.cmpK {l r : PySem.Expr} {op : CmpOp} {pos : Pos} (h : SE C l (kC C x r op (kTr C x kb)) x lc hp) (hm : behindInMarks op r = false) : ST C (.Compare l [op] [r] pos) wh kb x lc hp := ST.cmp h hm
theorem OpAssign.tupK {e1 e2 : PySem.Expr} {n : Nat} {p : Pos} {a b : V} (h : OpAssign C e1 a (kO C x e2 b ku) x lc hp) (ha : assignEach [e1, e2] C.env = [(false, assign e1 C.env), (false, assign e2 C.env)]) : OpAssign C (.Tuple [e1, e2] n p) (.tup [a, b]) ku x lc hp := OpAssign.tup2 h ha
theorem SX.forK {target iter : PySem.Expr} {body : List Stmt} {pos : Pos}
  (h : SE C iter (fun v lc hp => Done (∃ (l : List V) (I : Nat → Loc → HP → Prop), IterV C v l ∧ I 0 lc hp ∧
   (∀ i y lc hp, l[i]? = some y → I i lc hp → OpAssign C target y (kW C x body (kFo I i kf)) x lc hp) ∧
   (∀ lc hp, I l.length lc hp → kf .next lc hp))) x lc hp)
  (hs : ∀ v, foldedSetIterable iter C.env v = pure v) (ht : C.top = true) : SX C (.For target iter body [] pos) kf x lc hp := SX.forD h hs ht
end
section
variable {β : Type} {n m : Str} {v u : β} {l : List (Str × β)} {ns : List Str} {vs ds : List β}
theorem lkH : ((n, v) :: l).lookup n = some v := by simp [List.lookup]
theorem lkE {w : β} (h : v = w) : ((n, v) :: l).lookup n = some w := h ▸ lkH
theorem lkT (h : (n == m) = false) (t : l.lookup n = some v) : ((m, u) :: l).lookup n = some v := by rw [List.lookup_cons, h]; exact t
theorem lkZ : ((n :: ns).zip (v :: vs ++ ds)).lookup n = some v := lkH
theorem lkZT (h : (n == m) = false) (t : (ns.zip (vs ++ ds)).lookup n = some v) : ((m :: ns).zip (u :: vs ++ ds)).lookup n = some v := lkT h t
theorem lkZ0 (t : (ns.zip ds).lookup n = some v) : (ns.zip ([] ++ ds)).lookup n = some v := t
theorem lkY : ((n :: ns).zip (v :: vs)).lookup n = some v := lkH
end
end Mine
end
section
open PySem PySem.W PyProof.Rows PySem.Calls
namespace Mine
example : True := by
 k_with_none
 k_with "SXs" => refine SXs.stepK (by k_dflt rfl) ?_
 k_with "SXs nil" => refine SXs.nil ?_
 k_with "SX If" => refine SX.ifK ?_
 k_with "SX Return" => refine SX.retK ?_
 k_with "SX Pass" => refine SX.pass ?_
 k_with "SX Expr" => refine SX.exprK ?_ (by k_dflt rfl)
 k_with "SX Raise" => refine SX.raiseD ?_
 k_with "SX Assign" => first | refine SX.assignK ?_ (by k_dflt rfl) | refine SX.attrK ?_ (by k_dflt rfl) | refine SX.subK ?_ (by k_dflt rfl) | refine SX.tupK ?_ (by k_dflt rfl) (by k_dflt rfl)
 k_with "SE Constant" => first | refine SE.int ?_ | refine SE.strL ?_ | refine SE.bool ?_ | refine SE.none ?_
 k_with "SE BinOp" => refine SE.binK ?_
 k_with "SE UnaryOp" => refine SE.unK ?_
 k_with "SE Compare" => first | (refine SE.cmpK ?_ (by k_dflt rfl)) | ((plain_pass; (first | (refine' SE.cmp2M ?_ ?_ ?_ ?_ ?_ ?_ (by k_dflt rfl); rotate_left 5; (walk_at "m1"); (walk_at "m1"); (walk_at "m1"); (walk_at "m1"); (walk_at "m1")) | refine SE.cmp2 ?_ (by k_dflt rfl))))
 k_with "SE BoolOp" => first | (refine SE.bool1 ?_) | ((plain_pass; (first | (refine' SE.andM ?_ ?_ ?_; rotate_left 2; (walk_at "m1"); (walk_at "m2")) | (refine' SE.orM ?_ ?_ ?_; rotate_left 2; (walk_at "m1"); (walk_at "m2")) | refine SE.and ?_ | refine SE.or ?_)))
 k_with "SE IfExp" => (plain_pass; (first | (refine' SE.ifS ?_ ?_ ?_ ?_; rotate_left 3; (walk_at "m1"); (walk_at "m2"); (walk_at "m2")) | (refine' SE.ifI ?_ ?_ ?_ ?_; rotate_left 3; (walk_at "m1"); (walk_at "m2"); (walk_at "m2")) | refine SE.ifK ?_))
 k_with "SE Subscript" => first | refine SE.sliceK ?_ | refine SE.subK ?_
 k_with "SE Attribute" => refine SE.attrK ?_ (by k_dflt rfl)
 k_with "SE Tuple" => refine SE.tupK ?_
 k_with "SE List" => refine SE.listK ?_
 k_with "SE Call" => first | refine SE.mcallK ?_ (by k_dflt rfl) (by k_dflt (first | trivial | exact ⟨rfl, fun _ => rfl⟩)) | refine SE.callK ?_ (by k_dflt rfl) (by k_dflt (first | trivial | exact ⟨rfl, fun _ => rfl⟩))
 k_with "SL nil" => refine SL.nil ?_
 k_with "SL cons" => refine SL.consK ?_ (by k_dflt rfl)
 k_with "OptE none" => refine OptE.no ?_
 k_with "OptE some" => refine OptE.soK ?_
 k_with "AsI" => refine AsI.mk ?_
 k_with "OptE" => first | refine OptE.no ?_ | refine OptE.soK ?_
 k_with "o" => first | assumption | decide | (rw [Callee.rm (by assumption)]; decide) | (rw [CalleeC.rm (by assumption)]; decide) | omega
 k_with "sc" => first | exact Callee.sc (by assumption) | exact CalleeC.sc (by assumption) | exact CompS.sc (by assumption)
 k_with "tp" => first | exact Callee.top (by assumption) | exact CalleeC.top (by assumption)
 k_with "cl" => first | exact CalleeC.cl (by assumption) | exact CompS.cl (by assumption)
 k_with "m1" => next => (intro kb hkb; (repeat walk1); exact hkb)
 k_with "m2" => next => (intro hb kb hkb; (repeat walk1); exact hkb)
 k_with "gS" => with_reducible (first | exact gl_FIGURES _ | exact gl_NAME_SIGNS _ | exact gl_HEX_SIGNS _ | exact gl_OCTAL_SIGNS _ | exact gl_HEX _ | exact gl_BRACKET_SIGNS _ | exact gl_STRAY_SIGNS _ | exact gl_NEWLINE _ | exact gl_MARKS _ | exact gl_law_figures _)
 k_with "gI" => with_reducible (first | exact gl_TOP _ | exact gl_MOST_NESTED _ | exact gl_LOOSE _)
 k_with "gR" => with_reducible (first | exact gl_Position _ | exact gl_position_of _ | exact gl_RegexError _ | exact gl_Cursor _ | exact gl_hex_escape _ | exact gl_escaped_sign _ | exact gl_CharSet _ | exact gl_show_code _ | exact gl_told _ | exact gl_named_class _ | exact gl_Never _ | exact gl_Chars _ | exact gl_Alt _ | exact gl_cat_all _ | exact gl_chars_node _ | exact gl_RegexReader _ | exact gl_read_regex _ | exact gl_show_sign _ | exact gl_show_chars _ | exact gl_show_at _ | exact gl_show_regex _ | exact gl_law_pen _ | exact gl_law_draw _ | exact gl_law_words _ | exact gl_law_held _ | exact gl_law_spans _ | exact gl_law_hex _ | exact gl_law_inner _ | exact gl_law_shown _ | exact gl_law_spelled _ | exact gl_law_class _ | exact gl_law_heard _ | exact gl_law_refused _)
 k_with "gb" => with_reducible (first | exact gb_chr _ | exact gb_ord _ | exact gb_len _ | exact gb_range _ | exact gb_max _ | exact gb_min _ | exact gb_sorted _ | exact gb_tuple _ | exact gb_list _ | exact gb_int _ | exact gb_abs _ | exact gb_Exception _ | exact gb_str _)
 k_with "bb" => with_reducible (first | exact bb_chr | exact bb_ord | exact bb_len | exact bb_range | exact bb_max | exact bb_min | exact bb_sorted | exact bb_tuple | exact bb_list | exact bb_int | exact bb_abs | exact bb_Exception | exact bb_str)
 k_with "SE Name" => first | refine SE.loc (by walk_at "sc") (by kernel_rfl) (by kernel_rfl) (by walk_at "lk") ?_ | refine SE.cel (by walk_at "sc") (by decide +kernel) (by kernel_rfl) (by walk_at "cl") (by walk_at "lk") (by walk_at "hp") ?_ | refine SE.gR (by walk_at "sc") (by kernel_rfl) (by kernel_rfl) (by walk_at "gR") ?_ | refine SE.gS (by walk_at "sc") (by kernel_rfl) (by kernel_rfl) (by walk_at "gS") ?_ | refine SE.gI (by walk_at "sc") (by kernel_rfl) (by kernel_rfl) (by walk_at "gI") ?_ | ((with_reducible show SE _ (.Name (Str.ofString "PLAIN_ESCAPES") _) _ _ _ _); refine SE.gK (by walk_at "sc") (by kernel_rfl) (by kernel_rfl) (gl_PLAIN_ESCAPES _) (fun ok Z => den_esc ok Z) ?_) | ((with_reducible show SE _ (.Name (Str.ofString "CLASS_SPANS") _) _ _ _ _); refine SE.gK (by walk_at "sc") (by kernel_rfl) (by kernel_rfl) (gl_CLASS_SPANS _) (fun ok Z => den_cls ok Z) ?_) | refine SE.bi (by walk_at "sc") (by kernel_rfl) (by kernel_rfl) (by walk_at "gb") (by walk_at "bb") (by kernel_rfl) ?_
 k_with "OpStore" => first | refine OpStore.l (by walk_at "sc") (by decide +kernel) ?_ | refine OpStore.l (by walk_at "sc") (by k_dflt rfl) ?_ | refine OpStore.c (by walk_at "sc") (by kernel_rfl) (by walk_at "cl") (by walk_at "lk") (by walk_at "hp") ?_
 k_with "ST Compare" => first | (refine ST.cmpK ?_ (by k_dflt rfl)) | ((plain_pass; (first | (refine' ST.cmp2M ?_ ?_ ?_ ?_ ?_ ?_ (by k_dflt rfl); rotate_left 5; (walk_at "m1"); (walk_at "m1"); (walk_at "m1"); (walk_at "m1"); (walk_at "m1")) | refine ST.cmp2 ?_ (by k_dflt rfl))))
 k_with "ST UnaryOp" => refine ST.notK ?_
 k_with "ST BoolOp And nil" => refine ST.andNil ?_
 k_with "ST BoolOp" => first | refine ST.andNil ?_ | refine ST.orNil ?_ | ((plain_pass; (first | (refine' ST.andM ?_ ?_ ?_; rotate_left 2; (walk_at "m1"); (walk_at "m2")) | (refine' ST.orM ?_ ?_ ?_; rotate_left 2; (walk_at "m1"); (walk_at "m2")) | refine ST.andK ?_ | refine ST.orK ?_)))
 k_with "ST" => refine ST.plainK ?_ (by k_dflt rfl)
 k_with "hp" => (repeat (first | exact HP.set_get .. | assumption | refine HP.get_ne (by first | assumption | (apply Ne.symm; assumption) | omega) ?_))
 k_with "OpTruth ref" => refine OpTruth.lst (IsLst.m (by walk_at "hp")) (by walk_at "sz") ?_
 k_with "OpTruth lst" => refine OpTruth.lst IsLst.f (by walk_at "sz") ?_
 k_with "MC" => first | refine MC.r1K (by kernel_rfl) ?_ | refine MC.r0K (by kernel_rfl) ?_ | refine MC.b1K ?_ | refine MC.b0K ?_
 k_with "SX While" => refine SX.whileD (by walk_at "tp") ?_
 k_with "OpSub" => first | ((with_reducible show OpSub _ _ _ (prV _) (.int 0) _ _ _ _); refine OpSub.pr0 ?_) | ((with_reducible show OpSub _ _ _ (prV _) (.int 1) _ _ _ _); refine OpSub.pr1 ?_) | ((with_reducible show OpSub _ _ _ (.ref _) (.int (-1)) _ _ _ _); refine OpSub.last (IsLst.m (by walk_at "hp")) (by walk_at "sz") (by first | assumption | exact (Bool.and_eq_true_iff.mp (by assumption)).1 | exact (Bool.and_eq_true_iff.mp (Bool.and_eq_true_iff.mp (by assumption)).2).1) ?_)
 k_with "OpSetItem ref" => ((with_reducible show OpSetItem _ (.ref _) (.int (-1)) _ _ _ _ _); refine OpSetItem.last (by walk_at "hp") (by walk_at "sz") (by first | assumption | exact (Bool.and_eq_true_iff.mp (by assumption)).1 | exact (Bool.and_eq_true_iff.mp (Bool.and_eq_true_iff.mp (by assumption)).2).1) ?_)
 k_with "clo" => first | k_dflt rfl | (unfold closureFor cellOf; rw [CalleeC.cl (by assumption)]; k_dflt rfl)
 k_with "SE ListComp" => refine SE_compQ (by walk_at "sc") ?_ (by k_dflt (intro _; rfl)) (by walk_at "clo") (by decide +kernel)
 k_with "CTest" => first | refine CTest.no ?_ | refine CTest.one ?_
 k_with "SP nil" => refine SP.nil ?_
 k_with "SP cons" => refine SP.cons (ofS_cps _) ?_
 k_with "SP" => first | refine SP.nil ?_ | refine SP.cons (ofS_cps _) ?_
 k_with "OpTruth bool" => refine OpTruth.bool ?_
 k_with "OpTruth int" => refine OpTruth.int ?_
 k_with "OpTruth tup" => refine OpTruth.tup (by walk_at "sz") ?_
 k_with "OpTruth str" => refine OpTruth.str (by walk_at "sz") ?_
 k_with "OpUn Not" => refine OpUn.not ?_
 k_with "OpUn USub int" => refine OpUn.neg ?_
 k_with "OpBin FloorDiv int int" => refine OpBin.divS (by walk_at "o") (by walk_at "o") ?_
 k_with "OpBin Mod int int" => refine OpBin.modI (by walk_at "o") ?_
 k_with "OpBin Add int int" => refine OpBin.addI ?_
 k_with "OpBin Sub int int" => refine OpBin.subI ?_
 k_with "OpBin Add str str" => refine OpBin.addS (by walk_at "sz") ?_
 k_with "OpCmp Lt int int" => refine OpCmp.ltI ?_
 k_with "OpCmp LtE int int" => refine OpCmp.leI ?_
 k_with "OpCmp Gt int int" => refine OpCmp.gtI ?_
 k_with "OpCmp GtE int int" => refine OpCmp.geI ?_
 k_with "OpCmp Eq int int" => refine OpCmp.eqI ?_
 k_with "OpCmp NotEq int int" => refine OpCmp.neI ?_
 k_with "OpCmp Eq str str" => refine OpCmp.eqS ?_
 k_with "OpCmp NotEq str str" => refine OpCmp.neS ?_
 k_with "OpCmp Is" => refine OpCmp.isN (by k_dflt rfl) ?_
 k_with "OpNewTup" => refine OpNewTup.mk (by walk_at "sz") ?_
 k_with "OpAttr" => first | ((with_reducible show OpAttr _ _ (Str.ofString "spans") _ _ _ _); refine a_spans ?_) | ((with_reducible show OpAttr _ _ (Str.ofString "charset") _ _ _ _); refine a_charset ?_) | ((with_reducible show OpAttr _ _ (Str.ofString "name") _ _ _ _); refine a_nameC ?_) | ((with_reducible show OpAttr _ _ (Str.ofString "name") _ _ _ _); refine a_nameN ?_) | ((with_reducible show OpAttr _ _ (Str.ofString "text") _ _ _ _); refine a_text ?_) | ((with_reducible show OpAttr _ _ (Str.ofString "at") _ _ _ _); refine a_at ?_) | ((with_reducible show OpAttr _ _ (Str.ofString "cursor") _ _ _ _); refine a_cursor (by assumption) (by assumption) ?_) | ((with_reducible show OpAttr _ _ (Str.ofString "depth") _ _ _ _); refine a_depth (by assumption) (by assumption) ?_) | ((with_reducible show OpAttr _ _ (Str.ofString "is_pattern") _ _ _ _); refine a_isp (by assumption) (by assumption) ?_)
 k_with "m_cs" => with_reducible (first | exact me_442_complement _ | exact me_442_size _ | exact me_442_least _ | exact me_442_is_empty _ | exact me_442_same _ | exact me_442_key _)
 k_with "m_ch" => with_reducible (first | exact me_543_told _)
 k_with "m_cur" => with_reducible (first | exact me_222_is_done _ | exact me_222_peek _ | exact me_222_starts _ | exact me_222_take _ | exact me_222_skip _ | exact me_222_take_while _ | exact me_222_name _ | exact me_222_coded _ | exact me_222_escape _)
 k_with "m_rdr" => with_reducible (first | exact me_852_failed _ | exact me_852_is_stop _ | exact me_852_choice _ | exact me_852_branch _ | exact me_852_looped _ | exact me_852_single _ | exact me_852_code_of _ | exact me_852_sign_class _ | exact me_852_named _ | exact me_852_span _ | exact me_852_member _)
 k_with "st" => with_reducible (first | exact st_442_made _ | exact st_442_dot _ | exact st_442_span _)
 k_with "OpMeth" => first | refine m_cs (by walk_at "m_cs") (by decide) ?_ | refine m_ch (by walk_at "m_ch") (by decide) ?_ | refine m_cur (by walk_at "m_cur") (by decide) (by decide) ?_ | refine m_rdr (by walk_at "m_rdr") (by decide) (by decide) (by decide) (by decide) (by assumption) (by assumption) ?_ | ((with_reducible show OpMeth _ _ (Str.ofString "told") _ _ _ _); refine m_nv (me_517_told _) ?_) | refine OpMeth.stat (by walk_at "st") ?_ | ((with_reducible show OpMeth _ _ (Str.ofString "__init__") _ _ _ _); refine OpMeth.excInit ?_) | ((with_reducible show OpMeth _ _ (Str.ofString "get") _ _ _ _); refine OpMeth.get IsDct.f clsK_nd ?_) | ((with_reducible show OpMeth _ _ (Str.ofString "append") _ _ _ _); refine OpMeth.append (by walk_at "hp") ?_) | ((with_reducible show OpMeth _ _ (Str.ofString "join") _ _ _ _); refine OpMeth.join ?_) | ((with_reducible show OpMeth _ _ (Str.ofString "upper") _ _ _ _); refine OpMeth.upper ?_)
 k_with "OpCall raw" => first | ((with_reducible show OpCall _ (V.raw (.type "str")) _ _ _ _ _); refine OpCall.str127 ?_) | ((with_reducible show OpCall _ (V.raw (.builtin "str.join")) _ _ _ _ _); refine OpCall.joinL (IsLst.m (by walk_at "hp")) (by walk_at "o") ?_) | ((with_reducible show OpCall _ (V.raw (.builtin "str.join")) _ _ _ _ _); refine OpCall.joinL IsLst.f (by walk_at "o") ?_) | ((with_reducible show OpCall _ (V.raw (.builtin "list.append")) _ _ _ _ _); refine OpCall.append (by walk_at "hp") (by walk_at "sz") ?_) | ((with_reducible show OpCall _ (V.raw (.builtin "ord")) _ _ _ _ _); refine OpCall.ord ?_) | ((with_reducible show OpCall _ (V.raw (.builtin "chr")) _ _ _ _ _); refine OpCall.chr (by walk_at "o") (by walk_at "o") ?_) | ((with_reducible show OpCall _ (V.raw (.builtin "len")) _ _ _ _ _); refine OpCall.len (by walk_at "sz") ?_) | ((with_reducible show OpCall _ (V.raw (.builtin "len")) _ _ _ _ _); refine OpCall.lenL (IsLst.m (by walk_at "hp")) (by walk_at "sz") ?_) | ((with_reducible show OpCall _ (V.raw (.builtin "len")) _ _ _ _ _); refine OpCall.lenL IsLst.f (by walk_at "sz") ?_) | ((with_reducible show OpCall _ (V.raw (.builtin "len")) _ _ _ _ _); refine OpCall.lenT (by walk_at "sz") ?_) | ((with_reducible show OpCall _ (V.raw (.builtin "max")) _ _ _ _ _); refine OpCall.max2 ?_) | ((with_reducible show OpCall _ (V.raw (.builtin "min")) _ _ _ _ _); refine OpCall.min2 ?_) | ((with_reducible show OpCall _ (V.raw (.type "int")) _ _ _ _ _); refine OpCall.intI ?_) | ((with_reducible show OpCall _ (V.raw (.builtin "abs")) _ _ _ _ _); refine OpCall.abs ?_) | ((with_reducible show OpCall _ (V.raw (.type "range")) _ _ _ _ _); refine OpCall.range1 ?_) | ((with_reducible show OpCall _ (V.raw (.type "range")) _ _ _ _ _); refine OpCall.range2 ?_) | ((with_reducible show OpCall _ (V.raw (.type "tuple")) _ _ _ _ _); refine OpCall.tupleL (IsLst.m (by walk_at "hp")) (by walk_at "sz") ?_) | ((with_reducible show OpCall _ (V.raw (.type "tuple")) _ _ _ _ _); refine OpCall.tupleL IsLst.f (by walk_at "sz") ?_) | ((with_reducible show OpCall _ (V.raw (.type "list")) _ _ _ _ _); refine OpCall.listL IsLst.f (by walk_at "sz") ?_)
 k_with "OpCmp In" => refine OpCmp.inS ?_
 k_with "OpCmp NotIn" => refine OpCmp.notInS ?_
 k_with "And" => first | (refine ⟨.ty, ?_⟩) | (refine ⟨.bi, ?_⟩) | (refine ⟨.ref (by kernel_rfl), ?_⟩)
 k_with "SX For" => refine SX.forK ?_ (by k_dflt (intro _; rfl)) (by walk_at "tp")
 k_with "OpAssign Tuple" => refine OpAssign.tupK ?_ (by k_dflt rfl)
 k_with "OpAssign Name" => refine OpAssign.name ?_
 k_with "ite" => first | refine iteT (by assumption) ?_ | refine iteF (by assumption) ?_ | refine iteT (by decide +kernel) ?_ | refine iteF (by decide +kernel) ?_ | refine iteT (by k_dflt rfl) ?_ | refine iteF (by k_dflt rfl) ?_ | refine iteI ?_ ?_
 k_with "forall" => intro _
 k_with "lk" => ((repeat (first | assumption | with_reducible exact lkH | with_reducible exact lkZ | ((with_reducible refine lkE ?_); rfl) | with_reducible apply lkT (by kernel_rfl) | with_reducible apply lkZT (by kernel_rfl) | with_reducible apply lkZ0 | with_reducible exact lkY | with_reducible apply lkYT (by kernel_rfl))); done)
 k_with "sz" => first | decide | omega | (rw [sizeLine_eq]; omega) | (simp only [List.length_append, sizeLine_eq]; omega) | (simp only [List.length_append, List.length_cons, List.length_nil, List.length_map, List.length_take, List.length_drop, List.length_singleton, sizeLine_eq]; first | omega | (simp [L]; done) | (simp [L]; omega))
 trivial
section
noncomputable def hexd (n : Nat) : Nat := (L "0123456789abcdef").getD n 0
noncomputable def hexE (n : Nat) : List Nat := L "\\x" ++ [hexd (n / 16)] ++ [hexd (n % 16)]
theorem hexd_get {i : Int} {n : Nat} (h : i.toNat = n) (h2 : n < 16) : (L "0123456789abcdef")[i.toNat]? = some (hexd n) := by
 subst h
 unfold hexd
 rw [List.getD_eq_getElem?_getD, List.getElem?_eq_getElem (by exact h2)]; rfl
theorem fdiv16 (n : Nat) : (Int.fdiv (n : Int) 16).toNat = n / 16 := by rw [Int.fdiv_eq_ediv_of_nonneg _ (by walk_at "o")]; exact or2
theorem fmod16 (n : Nat) : (Int.fmod (n : Int) 16).toNat = n % 16 := by rw [Int.fmod_eq_emod_of_nonneg _ (by walk_at "o")]; exact om1
theorem fdiv_nn (n : Nat) : 0 ≤ Int.fdiv (n : Int) 16 := Int.fdiv_nonneg (by walk_at "o") (by walk_at "o")
theorem fmod_nn (n : Nat) : 0 ≤ Int.fmod (n : Int) 16 := by rw [Int.fmod_eq_emod_of_nonneg _ (by walk_at "o")]; exact os8
section
variable {C : Fm} {x : HP → Prop} {lc : Loc} {hp : HP} {k : V → Loc → HP → Prop}
theorem c_hex_escape (n : Nat) (h1 : n < 256) (hrm : 1 ≤ C.rm) (h : k (.str (hexE n)) lc hp) : OpCall C (.ref 233) [.int n] k x lc hp := by
 refine OpCall.fn 0 (fn_233 _) fl_233 rfl (ds := []) (fun _ => rfl) (by walk_at "o") fun C' hC => ?_
 repeat walk1
 refine OpSub.str (by decide) (fdiv_nn n) (hexd_get (fdiv16 n) (by walk_at "o")) ?_
 repeat walk1
 refine OpSub.str (by decide) (fmod_nn n) (hexd_get (fmod16 n) (by walk_at "o")) ?_
 repeat walk1
 exact h
noncomputable def escS (c : Nat) : List Nat :=
 if ([c] == L "\n") = true then L "\\n" else if ([c] == L "\t") = true then L "\\t" else if (decide (c ∈ L "\"[](){}.*+?|^$/<%") || ([c] == L "\\" || false)) = true then L "\\" ++ [c] else
 if ((decide ((c : Int) < 32) || (decide (126 < (c : Int)) || false)) && (decide ((c : Int) < 256) && true)) = true then hexE c else [c]
theorem c_escaped_sign (c : Nat) (h1 : c < 128) (hrm : 2 ≤ C.rm) (h : k (.str (escS c)) lc hp) : OpCall C (.ref 240) [.str [c], .str (L "\"[](){}.*+?|^$/<%")] k x lc hp := by
 refine OpCall.fn 1 (fn_240 _) fl_240 rfl (ds := []) (fun _ => rfl) (by walk_at "o") fun C' hC => ?_
 unfold escS at h
 repeat' walk1
 ·rw [if_pos (by assumption)] at h; exact h
 ·rw [if_neg (by assumption), if_pos (by assumption)] at h; exact h
 ·rw [if_neg (by assumption), if_neg (by assumption), if_pos (by assumption)] at h; exact h
 ·refine c_hex_escape c (by walk_at "o") (by walk_at "o") ?_
  rw [if_neg (by assumption), if_neg (by assumption), if_neg (by assumption), if_pos (by assumption)] at h; exact h
 ·rw [if_neg (by assumption), if_neg (by assumption), if_neg (by assumption), if_neg (by assumption)] at h; exact h
end
end
section
section
variable {C : Fm} {x : HP → Prop} {lc : Loc} {hp : HP} {k : V → Loc → HP → Prop}
theorem mk_CharSet (v : V) (hrm : 2 ≤ C.rm) (h : k (.inst 442 [S "spans"] [v]) lc hp) : OpCall C (.ref 442) [v] k x lc hp := by
 refine OpCall.clsD 0 (mk_442 _) (fn_290 _) fl_290 rfl (ds := []) (fun _ => rfl) (by walk_at "o") (.inst 442 [S "spans"] [v]) (fun a ha C' hC => ?_) h
 repeat walk1
 refine OpSetAttr.own (HP.set_get ..) (se_442_spans _) (by simp) ?_
 repeat walk1
 exact ⟨⟨rfl, .inst 442 [S "spans"] [v], HP.set_set .., rfl⟩⟩
theorem c_dot (hrm : 3 ≤ C.rm) (h : k (csV [(0, 9), (11, 127)]) lc hp) : OpCall C (.ref 317) [] k x lc hp := by
 refine OpCall.fn 2 (fn_317 _) fl_317 rfl (ds := []) (fun _ => rfl) (by walk_at "o") fun C' hC => ?_
 repeat walk1
 exact mk_CharSet _ (by walk_at "o") h
noncomputable def keptP (ps : List (Int × Int)) : List (Int × Int) := ps.filterMap fun p => if max p.1 0 ≤ min p.2 127 then some (max p.1 0, min p.2 127) else none
noncomputable def mrgStep (acc : List (Int × Int)) (p : Int × Int) : List (Int × Int) :=
 if (!acc.isEmpty && (decide (p.1 ≤ (lastP acc).2 + 1) && true)) = true then (if decide ((lastP acc).2 < p.2) = true then acc.set (acc.length - 1) ((lastP acc).1, p.2) else acc) else acc ++ [p]
noncomputable def mrg (qs : List (Int × Int)) : List (Int × Int) := qs.foldl mrgStep []
theorem mrgStep_len (acc : List (Int × Int)) (p : Int × Int) : (mrgStep acc p).length ≤ acc.length + 1 := by
 unfold mrgStep
 split
 ·split <;> simp
 ·simp
theorem foldl_take {α β : Type} (f : β → α → β) (b : β) (l : List α) {i : Nat} {a : α} (h : l[i]? = some a) : (l.take (i + 1)).foldl f b = f ((l.take i).foldl f b) a := by
 rw [List.take_add_one, h, List.foldl_append]; rfl
theorem mrg_len (qs : List (Int × Int)) : ∀ i, ((qs.take i).foldl mrgStep []).length ≤ i
 | 0 => by simp
 | i + 1 => by
  have ih := mrg_len qs i
  cases h : qs[i]? with
  | none =>
   have : qs.length ≤ i := List.getElem?_eq_none_iff.mp h
   rw [List.take_of_length_le (by walk_at "o")]
   rw [List.take_of_length_le this] at ih
   exact ov0 ih
  | some a =>
   rw [foldl_take _ _ _ h]
   have := mrgStep_len ((qs.take i).foldl mrgStep []) a
   exact oe10 ih this
theorem keptP_take {ps : List (Int × Int)} {i : Nat} {p : Int × Int} (h : ps[i]? = some p) : keptP (ps.take (i + 1)) = keptP (ps.take i) ++ (if max p.1 0 ≤ min p.2 127 then [(max p.1 0, min p.2 127)] else []) := by
 unfold keptP
 rw [List.take_add_one, h, List.filterMap_append]
 congr 1
 simp only [Option.toList_some, List.filterMap_cons, List.filterMap_nil]
 split <;> rename_i q <;> (split at q <;> simp_all)
theorem keptP_len (ps : List (Int × Int)) : (keptP ps).length ≤ ps.length := by unfold keptP; exact List.length_filterMap_le ..
theorem getMap {ps : List (Int × Int)} {i : Nat} {y : V} (h : (ps.map prV)[i]? = some y) : ∃ p, ps[i]? = some p ∧ y = prV p := by
 rw [List.getElem?_map] at h
 cases q : ps[i]? with
 | none => rw [q] at h; cases h
 | some p => rw [q] at h; cases h; exact ⟨p, rfl, rfl⟩
theorem c_made {v : V} (ps : List (Int × Int)) (hv : IterV C v (ps.map prV)) (hz : ps.length < 64) (hrm : 3 ≤ C.rm) (h : ∀ qs : List (Int × Int), qs.Perm (keptP ps) → qs.Pairwise (fun a b => ltP b a = false) → k (csV (mrg qs)) lc hp) : OpCall C (.ref 345) [v] k x lc hp := by
 refine Tri.outD (OpCall.fn 2 (fn_345 _) fl_345 rfl (ds := []) (fun _ => rfl) (by walk_at "o") fun C' hC => ?_)
 repeat walk1
 refine OpNewList.mk (by simp) fun a ha => ?_
 repeat walk1
 let I9 : Nat → Loc → HP → Prop := fun i lc' hp' => Done (lc'.lookup (S "kept") = some (.ref a) ∧ hp' = hp.set a (.list ((keptP (ps.take i)).map prV)))
 refine ⟨⟨ps.map prV, I9, hv, ⟨by rfl, rfl⟩, ?_, ?_⟩⟩
 ·rintro i y lc' hp' hy ⟨hk, rfl⟩
  obtain ⟨p, hp1, rfl⟩ := getMap hy
  have hl := keptP_len (ps.take i)
  rw [List.length_take] at hl
  have e := keptP_take hp1
  show OpAssign C' _ (.tup [.int p.1, .int p.2]) _ _ _ _
  repeat' walk1
  ·rename_i q
   rw [if_pos (of_decide_eq_true q)] at e
   refine ⟨by walk_at "lk", ?_⟩
   rw [HP.set_set, e, List.map_append]; rfl
  ·rename_i q
   rw [if_neg (of_decide_eq_false (by simpa using q)), List.append_nil] at e
   refine ⟨by walk_at "lk", ?_⟩
   rw [e]
 ·rintro lc' hp' ⟨hk, rfl⟩
  rw [List.length_map, List.take_length]
  have hl := keptP_len ps
  repeat walk1
  refine OpNewList.mk (by simp) fun b hb => ?_
  obtain ⟨hb, hba⟩ := HP.set_none hb
  repeat walk1
  refine OpCall.sortedP (IsLst.m (by walk_at "hp")) (by walk_at "o") fun qs hq1 hq2 => ⟨⟨qs.map prV, fun i lc' hp' => Done (lc'.lookup (S "spans") = some (.ref b) ∧ hp' = (hp.set a (.list ((keptP ps).map prV))).set b (.list (((qs.take i).foldl mrgStep []).map prV))), .inl rfl, ⟨by rfl, rfl⟩, ?_, ?_⟩⟩
  ·rintro i y lc' hp' hy ⟨hk, rfl⟩
   obtain ⟨p, hp1, rfl⟩ := getMap hy
   have e := foldl_take mrgStep [] qs hp1
   have hl2 := mrg_len qs i
   have hi : i < qs.length := (List.getElem?_eq_some_iff.mp hp1).1
   have hl3 := hq1.length_eq
   generalize (qs.take i).foldl mrgStep [] = acc at *
   show OpAssign C' _ (.tup [.int p.1, .int p.2]) _ _ _ _
   repeat' walk1
   ·rename_i q1 q2
    rw [List.isEmpty_map] at q1
    refine ⟨by walk_at "lk", ?_⟩
    rw [HP.set_set, e, mrgStep, if_pos q1, if_pos q2]
   ·rename_i q1 q2
    rw [List.isEmpty_map] at q1
    refine ⟨by walk_at "lk", ?_⟩
    rw [e, mrgStep, if_pos q1, if_neg q2]
   ·rename_i q1
    rw [List.isEmpty_map] at q1
    refine ⟨by walk_at "lk", ?_⟩
    rw [HP.set_set, e, mrgStep, if_neg q1, List.map_append]; rfl
  ·rintro lc' hp' ⟨hk, rfl⟩
   rw [List.length_map, List.take_length]
   have hl2 := mrg_len qs qs.length
   rw [List.take_length] at hl2
   have hl3 := hq1.length_eq
   repeat walk1
   refine mk_CharSet _ (by walk_at "o") ⟨⟨hp, ?_, h qs hq1 hq2⟩⟩
   exact HP.le_set' hb (HP.le_set' ha (HP.le_refl _))
end
end
section
section
variable {C : Fm} {x : HP → Prop} {lc : Loc} {hp : HP} {k : V → Loc → HP → Prop}
theorem c_span (a b : Int) (hrm : 4 ≤ C.rm) (h : ∀ qs : List (Int × Int), qs.Perm (keptP [(a, b)]) → qs.Pairwise (fun a b => ltP b a = false) → k (csV (mrg qs)) lc hp) : OpCall C (.ref 335) [.int a, .int b] k x lc hp := by
 refine OpCall.fn 3 (fn_335 _) fl_335 rfl (ds := []) (fun _ => rfl) (by walk_at "o") fun C' hC => ?_
 repeat walk1
 refine OpNewList.fz (by walk_at "sz") ?_
 repeat walk1
 exact c_made [(a, b)] (.inl rfl) (by show 1 < 64; decide) (by walk_at "o") h
noncomputable def sizeS (t : Int) (p : Int × Int) : Int := t + p.2 - p.1 + 1
noncomputable def sizeP (sp : List (Int × Int)) : Int := sp.foldl sizeS 0
theorem c_size (sp : List (Int × Int)) (hrm : 1 ≤ C.rm) (h : k (.int (sizeP sp)) lc hp) : OpCall C (.ref 362) [csV sp] k x lc hp := by
 refine OpCall.fn 0 (fn_362 _) fl_362 rfl (ds := []) (fun _ => rfl) (by walk_at "o") fun C' hC => ?_
 repeat walk1
 let I9 : Nat → Loc → HP → Prop := fun i lc' hp' => Done (lc'.lookup (S "total") = some (.int ((sp.take i).foldl sizeS 0)) ∧ hp' = hp)
 refine ⟨⟨sp.map prV, I9, .inr (.inl rfl), ⟨by rfl, rfl⟩, ?_, ?_⟩⟩
 ·rintro i y lc' hp' hy ⟨hk, rfl⟩
  obtain ⟨p, hp1, rfl⟩ := getMap hy
  have e := foldl_take sizeS 0 sp hp1
  show OpAssign C' _ (.tup [.int p.1, .int p.2]) _ _ _ _
  repeat walk1
  refine ⟨?_, rfl⟩
  rw [e]
  walk_at "lk"
 ·rintro lc' hp' ⟨hk, rfl⟩
  rw [List.length_map, List.take_length] at hk
  repeat walk1
  exact h
theorem c_least (sp : List (Int × Int)) (hne : sp ≠ []) (hz : sp.length ≤ 1048576) (hrm : 1 ≤ C.rm) (h : k (.int (sp.headD (0, 0)).1) lc hp) : OpCall C (.ref 376) [csV sp] k x lc hp := by
 refine OpCall.fn 0 (fn_376 _) fl_376 rfl (ds := []) (fun _ => rfl) (by walk_at "o") fun C' hC => ?_
 repeat' walk1
 all_goals rename_i q
 ·cases sp with
  | nil => exact absurd rfl hne
  | cons p r => simp at q
 ·cases sp with
  | nil => exact absurd rfl hne
  | cons p r =>
   refine OpSub.tup (by rw [List.length_map]; exact ow10 hz) (y := prV p) rfl ?_
   repeat walk1
   exact h
theorem c_is_empty (sp : List (Int × Int)) (hz : sp.length ≤ 1048576) (hrm : 1 ≤ C.rm) (h : k (.bool sp.isEmpty) lc hp) : OpCall C (.ref 383) [csV sp] k x lc hp := by
 refine OpCall.fn 0 (fn_383 _) fl_383 rfl (ds := []) (fun _ => rfl) (by walk_at "o") fun C' hC => ?_
 repeat' walk1
 rw [show (((sp.map prV).length : Int) == 0) = sp.isEmpty by cases sp <;> simp; exact or13]
 exact h
theorem isDs_prs : ∀ (sp : List (Int × Int)), isDs (sp.map prV) = true
 | [] => rfl
 | p :: r => by simp [isDs, V.isD, prV, isDs_prs r]
theorem lay_prs : ∀ (sp : List (Int × Int)), PyData.canLayAll0 (pds (sp.map prV)) = true ∧ PyData.depthAll (pds (sp.map prV)) ≤ 1
 | [] => ⟨rfl, by simp [pds, PyData.depthAll]⟩
 | p :: r => by
  obtain ⟨h1, h2⟩ := lay_prs r
  simp only [List.map_cons, pds, prV, V.pd, PyData.canLayAll0, PyData.canLay0, PyData.depthAll, PyData.depth, Bool.true_and, Bool.and_true, Bool.and_self]
  exact ⟨h1, by exact ot3 h2⟩
theorem shaped_prs (sp : List (Int × Int)) : SeqAt.shaped (prs sp).pd = true := by
 obtain ⟨h1, h2⟩ := lay_prs sp
 simp only [SeqAt.shaped, V.pd, PyData.canLay0, PyData.depth, Bool.and_eq_true, decide_eq_true_eq]
 exact ⟨h1, by exact ou5 h2⟩
theorem eqv_prs : ∀ (sp sp2 : List (Int × Int)), PyData.eqvAll (pds (sp.map prV)) (pds (sp2.map prV)) = decide (sp = sp2)
 | [], [] => rfl
 | [], _ :: _ => rfl
 | _ :: _, [] => rfl
 | p :: r, q :: r2 => by
  simp only [List.map_cons, pds, prV, V.pd, PyData.eqvAll, PyData.eqv, Bool.and_true, List.cons.injEq]
  rw [eqv_prs r r2]
  obtain ⟨a, b⟩ := p
  obtain ⟨c, d⟩ := q
  simp only [Prod.mk.injEq, Bool.decide_and]
  rfl
theorem c_same (sp sp2 : List (Int × Int)) (hrm : 1 ≤ C.rm) (h : k (.bool (decide (sp = sp2))) lc hp) : OpCall C (.ref 418) [csV sp, csV sp2] k x lc hp := by
 refine OpCall.fn 0 (fn_418 _) fl_418 rfl (ds := []) (fun _ => rfl) (by walk_at "o") fun C' hC => ?_
 repeat' walk1
 refine OpCmp.eqD (IsDat.f (isDs_prs sp)) (IsDat.f (isDs_prs sp2)) (shaped_prs sp) (shaped_prs sp2) ?_
 rw [show PyData.eqv (prs sp).pd (prs sp2).pd = decide (sp = sp2) by simp only [V.pd, PyData.eqv]; exact eqv_prs sp sp2]
 exact h
theorem c_key (sp : List (Int × Int)) (hrm : 1 ≤ C.rm) (h : k (prs sp) lc hp) : OpCall C (.ref 439) [csV sp] k x lc hp := by
 refine OpCall.fn 0 (fn_439 _) fl_439 rfl (ds := []) (fun _ => rfl) (by walk_at "o") fun C' hC => ?_
 repeat' walk1
 exact h
noncomputable def cmpStep (s : Int × List (Int × Int)) (p : Int × Int) : Int × List (Int × Int) := (p.2 + 1, if decide (s.1 < p.1) = true then s.2 ++ [(s.1, p.1 - 1)] else s.2)
noncomputable def cmpl (sp : List (Int × Int)) : List (Int × Int) :=
 if decide ((sp.foldl cmpStep (0, [])).1 ≤ 127) = true then (sp.foldl cmpStep (0, [])).2 ++ [((sp.foldl cmpStep (0, [])).1, 127)] else (sp.foldl cmpStep (0, [])).2
theorem cmp_len (sp : List (Int × Int)) : ∀ i, ((sp.take i).foldl cmpStep (0, [])).2.length ≤ i
 | 0 => by simp
 | i + 1 => by
  have ih := cmp_len sp i
  cases h : sp[i]? with
  | none =>
   have : sp.length ≤ i := List.getElem?_eq_none_iff.mp h
   rw [List.take_of_length_le (by walk_at "o")]
   rw [List.take_of_length_le this] at ih
   exact ov0 ih
  | some a =>
   rw [foldl_take _ _ _ h]
   generalize (sp.take i).foldl cmpStep (0, []) = acc at *
   unfold cmpStep
   dsimp only
   split
   ·rw [List.length_append]; simp only [List.length_cons, List.length_nil]; exact oi5 ih
   ·exact ov0 ih
theorem c_complement (sp : List (Int × Int)) (hz : sp.length ≤ 1000) (hrm : 3 ≤ C.rm) (h : k (csV (cmpl sp)) lc hp) : OpCall C (.ref 404) [csV sp] k x lc hp := by
 refine Tri.outD (OpCall.fn 2 (fn_404 _) fl_404 rfl (ds := []) (fun _ => rfl) (by walk_at "o") fun C' hC => ?_)
 repeat walk1
 refine OpNewList.mk (by simp) fun a ha => ?_
 repeat walk1
 let I9 : Nat → Loc → HP → Prop := fun i lc' hp' => Done (lc'.lookup (S "begin") = some (.int ((sp.take i).foldl cmpStep (0, [])).1) ∧ lc'.lookup (S "spans") = some (.ref a) ∧ hp' = hp.set a (.list (((sp.take i).foldl cmpStep (0, [])).2.map prV)))
 refine ⟨⟨sp.map prV, I9, .inr (.inl rfl), ⟨by rfl, by rfl, rfl⟩, ?_, ?_⟩⟩
 ·rintro i y lc' hp' hy ⟨hk, hk2, rfl⟩
  obtain ⟨p, hp1, rfl⟩ := getMap hy
  have e := foldl_take cmpStep (0, []) sp hp1
  have hl := cmp_len sp i
  have hi : i < sp.length := (List.getElem?_eq_some_iff.mp hp1).1
  generalize (sp.take i).foldl cmpStep (0, []) = acc at *
  show OpAssign C' _ (.tup [.int p.1, .int p.2]) _ _ _ _
  repeat' walk1
  ·rename_i q
   refine ⟨by rw [e]; walk_at "lk", by walk_at "lk", ?_⟩
   rw [HP.set_set, e, cmpStep, if_pos q, List.map_append]; rfl
  ·rename_i q
   refine ⟨by rw [e]; walk_at "lk", by walk_at "lk", ?_⟩
   rw [e, cmpStep, if_neg q]
 ·rintro lc' hp' ⟨hk, hk2, rfl⟩
  have hl := cmp_len sp sp.length
  rw [List.length_map, List.take_length] at *
  unfold cmpl at h
  generalize sp.foldl cmpStep (0, []) = acc at *
  repeat' walk1
  ·rename_i q
   rw [if_pos q] at h
   have h' : k (.inst 442 [S "spans"] [.tup ((acc.2 ++ [(acc.1, 127)]).map prV)]) lc hp := h
   rw [List.map_append] at h'
   exact mk_CharSet _ (by walk_at "o") ⟨⟨hp, HP.le_set' ha (HP.le_set' ha (HP.le_refl _)), h'⟩⟩
  ·rename_i q
   rw [if_neg q] at h
   exact mk_CharSet _ (by walk_at "o") ⟨⟨hp, HP.le_set' ha (HP.le_refl _), h⟩⟩
end
end
section
section
variable {C : Fm} {x : HP → Prop} {lc : Loc} {hp : HP} {k : V → Loc → HP → Prop}
noncomputable def shC (c : Nat) : List Nat :=
 if decide (c ∈ L "\\][^-") = true then L "\\" ++ [c] else if (decide ((c : Int) < 32) || (decide (126 < (c : Int)) || false)) = true then hexE c else [c]
theorem c_show_code (i : Int) (c : Nat) (hi : i = c) (h1 : c < 128) (hrm : 1 ≤ C.rm) (h : k (.str (shC c)) lc hp) : OpCall C (.ref 453) [.int i] k x lc hp := by
 subst hi
 refine OpCall.fn 0 (fn_453 _) fl_453 rfl (ds := []) (fun _ => rfl) (by walk_at "o") fun C' hC => ?_
 unfold shC at h
 repeat' walk1
 ·rw [if_pos (by assumption)] at h; exact h
 ·rw [if_neg (by assumption), if_pos (by assumption)] at h
  refine OpSub.str (by decide) (fdiv_nn c) (hexd_get (fdiv16 c) (by walk_at "o")) ?_
  repeat walk1
  refine OpSub.str (by decide) (fmod_nn c) (hexd_get (fmod16 c) (by walk_at "o")) ?_
  repeat walk1
  exact h
 ·rw [if_neg (by assumption), if_neg (by assumption)] at h; exact h
theorem shC_len (c : Nat) : (shC c).length ≤ 4 := by
 unfold shC
 split
 ·simp [L]
 ·split
  ·simp [hexE, L]
  ·simp
noncomputable def InB (sp : List (Int × Int)) : Prop := ∀ p ∈ sp, 0 ≤ p.1 ∧ p.1 ≤ 127 ∧ 0 ≤ p.2 ∧ p.2 ≤ 127
noncomputable def toldS (acc : List (List Nat)) (p : Int × Int) : List (List Nat) :=
 let a := acc ++ [shC p.1.toNat]
 let b := if decide (p.1 + 1 < p.2) = true then a ++ [L "-"] else a
 if decide (p.1 < p.2) = true then b ++ [shC p.2.toNat] else b
noncomputable def toldP (sp : List (Int × Int)) : List Nat := if sp.isEmpty = true then L "[^" ++ shC 0 ++ L "-" ++ shC 127 ++ L "]" else L "[" ++ (sp.foldl toldS []).flatten ++ L "]"
theorem told_len (sp : List (Int × Int)) : ∀ i, ((sp.take i).foldl toldS []).length ≤ 3 * i ∧ (((sp.take i).foldl toldS []).map (·.length)).sum ≤ 9 * i
 | 0 => by simp
 | i + 1 => by
  have ih := told_len sp i
  cases h : sp[i]? with
  | none =>
   have : sp.length ≤ i := List.getElem?_eq_none_iff.mp h
   rw [List.take_of_length_le (by walk_at "o")]
   rw [List.take_of_length_le this] at ih
   exact os7 ih
  | some p =>
   rw [foldl_take _ _ _ h]
   generalize (sp.take i).foldl toldS [] = acc at *
   have h1 := shC_len p.1.toNat
   have h2 := shC_len p.2.toNat
   have h3 : (L "-").length = 1 := by simp [L]
   unfold toldS
   dsimp only
   split <;> split <;> simp only [List.length_append, List.map_append, List.sum_append, List.length_cons, List.length_nil, List.map_cons, List.map_nil, List.sum_cons, List.sum_nil] <;> omega
section
variable {n m i : Nat} {a : Int}
theorem s_0 (h : n ≤ 3000) : n ≤ 1048576 := Nat.le_trans h (by decide)
theorem s_1 (h : n ≤ 3000) : n + (0 + 1) ≤ 1048576 := Nat.le_trans (Nat.add_le_add_right h 1) (by decide)
theorem s_2 (h : n ≤ 3000) : n + (0 + 1) + (0 + 1) ≤ 1048576 := Nat.le_trans (Nat.add_le_add_right h 2) (by decide)
theorem s_3 (h : m ≤ 1000) (hi : i < m) (hn : n ≤ 3 * i) : n ≤ 3000 := Nat.le_trans hn (Nat.mul_le_mul_left 3 (Nat.le_trans (Nat.le_of_lt hi) h))
theorem s_4 {k : Nat} (h : m ≤ 1000) (hn : n ≤ 3 * m ∧ k ≤ 9 * m) : k + n ≤ 1048576 := Nat.le_trans (Nat.add_le_add (Nat.le_trans hn.2 (Nat.mul_le_mul_left 9 h)) (Nat.le_trans hn.1 (Nat.mul_le_mul_left 3 h))) (by decide)
theorem tn_8 (h : a ≤ 127) : a.toNat < 128 := by omega
theorem s_5 {l : List Nat} (h : m ≤ 1000) (h2 : l.length ≤ 9 * m) : (L "[").length + l.length ≤ sizeLine := by rw [sizeLine_eq]; exact Nat.le_trans (Nat.add_le_add_left (Nat.le_trans h2 (Nat.mul_le_mul_left 9 h)) _) (by decide)
theorem s_6 {l : List Nat} (h : m ≤ 1000) (h2 : l.length ≤ 9 * m) : (L "[" ++ l).length + (L "]").length ≤ sizeLine := by rw [sizeLine_eq, List.length_append]; exact Nat.le_trans (Nat.add_le_add_right (Nat.add_le_add_left (Nat.le_trans h2 (Nat.mul_le_mul_left 9 h)) _) _) (by decide)
end
example : True := by
 k_with "sz" => (first | (with_reducible first | exact s_0 (by assumption) | exact s_5 (by assumption) (by assumption) | exact s_6 (by assumption) (by assumption)) | ((simp only [List.length_append, List.length_cons, List.length_nil, List.length_map]); (with_reducible first | exact s_0 (by assumption) | exact s_1 (by assumption) | exact s_2 (by assumption) | fail)) | fail)
 k_with "o" => (with_reducible first | exact s_4 (by assumption) (by assumption) | fail)
 trivial
theorem c_told (sp : List (Int × Int)) (hz : sp.length ≤ 1000) (hb : InB sp) (hrm : 2 ≤ C.rm) (h : k (.str (toldP sp)) lc hp) : OpCall C (.ref 460) [csV sp] k x lc hp := by
 refine Tri.outD (OpCall.fn 1 (fn_460 _) fl_460 rfl (ds := []) (fun _ => rfl) (by walk_at "o") fun C' hC => ?_)
 have hr := hC.rm
 unfold toldP at h
 repeat walk1
 refine c_is_empty sp (by walk_at "o") (by walk_at "o") ?_
 repeat' walk1
 ·rw [if_pos (by assumption)] at h
  refine c_show_code 0 0 rfl (by walk_at "o") (by walk_at "o") ?_
  have h0 := shC_len 0
  have h1 := shC_len 127
  have h2 : (L "[^").length = 2 := by simp [L]
  have h3 : (L "-").length = 1 := by simp [L]
  have h4 : (L "]").length = 1 := by simp [L]
  repeat' walk1
  refine c_show_code 127 127 rfl (by walk_at "o") (by walk_at "o") ?_
  repeat' walk1
  exact ⟨⟨hp, HP.le_refl _, h⟩⟩
 ·rename_i q
  rw [if_neg q] at h
  refine OpNewList.mk (by simp) fun a ha => ?_
  repeat walk1
  let I9 : Nat → Loc → HP → Prop := fun i lc' hp' => Done (lc'.lookup (S "parts") = some (.ref a) ∧ hp' = hp.set a (.list (((sp.take i).foldl toldS []).map .str)))
  refine ⟨⟨sp.map prV, I9, .inr (.inl rfl), ⟨by rfl, rfl⟩, ?_, ?_⟩⟩
  ·rintro i y lc' hp' hy ⟨hk, rfl⟩
   obtain ⟨p, hp1, rfl⟩ := getMap hy
   have e := foldl_take toldS [] sp hp1
   have hl := (told_len sp i).1
   have hi : i < sp.length := (List.getElem?_eq_some_iff.mp hp1).1
   obtain ⟨b1, b2, b3, b4⟩ := hb p (List.mem_of_getElem? hp1)
   generalize (sp.take i).foldl toldS [] = acc at *
   replace hl := s_3 hz hi hl
   show OpAssign C' _ (.tup [.int p.1, .int p.2]) _ _ _ _
   repeat walk1
   refine c_show_code p.1 p.1.toNat (Int.toNat_of_nonneg b1).symm (tn_8 b2) (by walk_at "o") ?_
   repeat' walk1
   ·rename_i q1 q2
    refine c_show_code p.2 p.2.toNat (Int.toNat_of_nonneg b3).symm (tn_8 b4) (by walk_at "o") ?_
    repeat' walk1
    refine ⟨by walk_at "lk", ?_⟩
    rw [e]; unfold toldS; dsimp only; rw [if_pos q1, if_pos q2]; simp only [HP.set_set, List.map_append, List.map_cons, List.map_nil]
   ·rename_i q1 q2
    refine ⟨by walk_at "lk", ?_⟩
    rw [e]; unfold toldS; dsimp only; rw [if_pos q1, if_neg q2]; simp only [HP.set_set, List.map_append, List.map_cons, List.map_nil]
   ·rename_i q1 q2
    refine c_show_code p.2 p.2.toNat (Int.toNat_of_nonneg b3).symm (tn_8 b4) (by walk_at "o") ?_
    repeat' walk1
    refine ⟨by walk_at "lk", ?_⟩
    rw [e]; unfold toldS; dsimp only; rw [if_neg q1, if_pos q2]; simp only [HP.set_set, List.map_append, List.map_cons, List.map_nil]
   ·rename_i q1 q2
    refine ⟨by walk_at "lk", ?_⟩
    rw [e]; unfold toldS; dsimp only; rw [if_neg q1, if_neg q2]; simp only [HP.set_set, List.map_append, List.map_cons, List.map_nil]
  ·rintro lc' hp' ⟨hk, rfl⟩
   have hl := told_len sp sp.length
   rw [List.length_map, List.take_length] at *
   generalize sp.foldl toldS [] = acc at *
   have hfl : acc.flatten.length ≤ 9 * sp.length := by rw [List.length_flatten]; exact hl.2
   have h1 : (L "[").length = 1 := rfl
   have h2 : (L "]").length = 1 := rfl
   repeat' walk1
   exact ⟨⟨hp, HP.le_set' ha (HP.le_refl _), h⟩⟩
noncomputable def shS (c : Nat) : List Nat := if ([c] == L " ") = true then L "\\x20" else escS c
theorem c_show_sign (c : Nat) (h1 : c < 128) (hrm : 3 ≤ C.rm) (h : k (.str (shS c)) lc hp) : OpCall C (.ref 871) [.str [c]] k x lc hp := by
 refine OpCall.fn 2 (fn_871 _) fl_871 rfl (ds := []) (fun _ => rfl) (by walk_at "o") fun C' hC => ?_
 unfold shS at h
 repeat' walk1
 ·rw [if_pos (by assumption)] at h; exact h
 ·rw [if_neg (by assumption)] at h
  exact c_escaped_sign c h1 (by walk_at "o") h
noncomputable def showP (sp : List (Int × Int)) : List Nat := if decide (sp = [(0, 9), (11, 127)]) = true then L "." else if (sizeP sp == 1) = true then shS (sp.headD (0, 0)).1.toNat else toldP sp
theorem c_show_chars (sp : List (Int × Int)) (hz : sp.length ≤ 1000) (hb : InB sp) (hrm : 4 ≤ C.rm) (h : k (.str (showP sp)) lc hp) : OpCall C (.ref 878) [csV sp] k x lc hp := by
 refine OpCall.fn 3 (fn_878 _) fl_878 rfl (ds := []) (fun _ => rfl) (by walk_at "o") fun C' hC => ?_
 have hr := hC.rm
 unfold showP at h
 repeat walk1
 refine c_dot (by walk_at "o") ?_
 repeat walk1
 refine c_same sp [(0, 9), (11, 127)] (by walk_at "o") ?_
 repeat' walk1
 ·rw [if_pos (by assumption)] at h; exact h
 ·rw [if_neg (by assumption)] at h
  refine c_size sp (by walk_at "o") ?_
  repeat' walk1
  ·rename_i q
   rw [if_pos q] at h
   have hne : sp ≠ [] := fun z => by rw [z] at q; simp [sizeP] at q
   refine c_least sp hne (by walk_at "o") (by walk_at "o") ?_
   obtain ⟨b1, b2, b3, b4⟩ : 0 ≤ (sp.headD (0, 0)).1 ∧ (sp.headD (0, 0)).1 ≤ 127 ∧ 0 ≤ (sp.headD (0, 0)).2 ∧ (sp.headD (0, 0)).2 ≤ 127 := by
    cases sp with
    | nil => exact absurd rfl hne
    | cons p r => exact hb p (.head _)
   repeat' walk1
   refine c_show_sign _ (by walk_at "o") (by walk_at "o") ?_
   exact h
  ·rw [if_neg (by assumption)] at h
   repeat walk1
   exact c_told sp hz hb (by walk_at "o") h
theorem mk_Chars (sp : List (Int × Int)) (hrm : 2 ≤ C.rm) (h : k (chV sp) lc hp) : OpCall C (.ref 543) [csV sp] k x lc hp := by
 refine OpCall.clsD 0 (mk_543 _) (fn_533 _) fl_533 rfl (ds := []) (fun _ => rfl) (by walk_at "o") (chV sp) (fun a ha C' hC => ?_) h
 repeat walk1
 refine OpSetAttr.own (HP.set_get ..) (se_543_charset _) (by simp) ?_
 repeat walk1
 exact ⟨⟨rfl, .inst 543 [S "charset"] [csV sp], HP.set_set .., rfl⟩⟩
theorem c_told_ch (sp : List (Int × Int)) (hrm : 2 ≤ C.rm) (h : k (.tup [.str (L "chars"), prs sp]) lc hp) : OpCall C (.ref 540) [chV sp] k x lc hp := by
 refine OpCall.fn 1 (fn_540 _) fl_540 rfl (ds := []) (fun _ => rfl) (by walk_at "o") fun C' hC => ?_
 repeat walk1
 refine c_key sp (by walk_at "o") ?_
 repeat walk1
 exact h
theorem c_told_nv (hrm : 1 ≤ C.rm) (h : k (.tup [.str (L "never")]) lc hp) : OpCall C (.ref 488) [nvV] k x lc hp := by
 refine OpCall.fn 0 (fn_488 _) fl_488 rfl (ds := []) (fun _ => rfl) (by walk_at "o") fun C' hC => ?_
 repeat walk1
 exact h
noncomputable def ndV (sp : List (Int × Int)) : V := if sp.isEmpty = true then nvV else chV sp
theorem c_chars_node (sp : List (Int × Int)) (hz : sp.length ≤ 1000) (hrm : 4 ≤ C.rm) (h : k (ndV sp) lc hp) : OpCall C (.ref 718) [csV sp] k x lc hp := by
 refine OpCall.fn 3 (fn_718 _) fl_718 rfl (ds := []) (fun _ => rfl) (by walk_at "o") fun C' hC => ?_
 have hr := hC.rm
 unfold ndV at h
 repeat walk1
 refine c_is_empty sp (by walk_at "o") (by walk_at "o") ?_
 repeat' walk1
 ·rw [if_pos (by assumption)] at h
  exact OpCall.cls0 (m0_517 _) (i0_517 _) h
 ·rw [if_neg (by assumption)] at h
  exact mk_Chars sp (by walk_at "o") h
theorem c_show_at (sp : List (Int × Int)) (hz : sp.length ≤ 1000) (hb : InB sp) (hrm : 5 ≤ C.rm) (h : k (.str (showP sp)) lc hp) : OpCall C (.ref 890) [chV sp, .int 0] k x lc hp := by
 refine OpCall.fn 4 (fn_890 _) fl_890 rfl (ds := []) (fun _ => rfl) (by walk_at "o") fun C' hC => ?_
 have hr := hC.rm
 repeat walk1
 exact c_show_chars sp hz hb (by walk_at "o") h
theorem c_show_regex (sp : List (Int × Int)) (hz : sp.length ≤ 1000) (hb : InB sp) (hrm : 6 ≤ C.rm) (h : k (.str (showP sp)) lc hp) : OpCall C (.ref 897) [chV sp] k x lc hp := by
 refine OpCall.fn 5 (fn_897 _) fl_897 rfl (ds := []) (fun _ => rfl) (by walk_at "o") fun C' hC => ?_
 repeat walk1
 exact c_show_at sp hz hb (by walk_at "o") h
end
end
section
noncomputable abbrev cuR (t rest : List Nat) : O := cur t ((t.length - rest.length : Nat) : Int)
theorem sfx_at {t rest : List Nat} (h : rest <:+ t) (i : Nat) : t[t.length - rest.length + i]? = rest[i]? := by
 obtain ⟨p, rfl⟩ := h
 rw [List.length_append, show p.length + rest.length - rest.length = p.length by exact om0, List.getElem?_append_right (by walk_at "o"), show p.length + i - p.length = i by exact ok2]
theorem sfx_le {t rest : List Nat} (h : rest <:+ t) : rest.length ≤ t.length := h.length_le
theorem nn_some {i : Int} (h : 0 ≤ i) : nonneg (some i) := fun j e => by injection e with e; exact ol13 e h
theorem nn_none : nonneg none := fun j e => by cases e
theorem cut_sfx {t rest : List Nat} (h : rest <:+ t) (n : Nat) : cut (some ((t.length - rest.length : Nat) : Int)) (some (((t.length - rest.length : Nat) : Int) + (n : Int))) t = rest.take n := by
 obtain ⟨p, rfl⟩ := h
 unfold cut
 simp only [List.length_append]
 rw [show (((p.length + rest.length - rest.length : Nat) : Int) + (n : Int)).toNat = p.length + n by exact oy1, show (((p.length + rest.length - rest.length : Nat) : Int)).toNat = p.length by exact ok1]
 rw [List.take_append, List.drop_append]
 simp
theorem cut_btw {t rest r2 : List Nat} (h : rest <:+ t) (h2 : r2 <:+ rest) : cut (some ((t.length - rest.length : Nat) : Int)) (some ((t.length - r2.length : Nat) : Int)) t = rest.take (rest.length - r2.length) := by
 have l1 := h.length_le
 have l2 := h2.length_le
 have := cut_sfx h (rest.length - r2.length)
 rw [← this]
 congr 2
 exact oj2 l1 l2
theorem sfx_tl {t r : List Nat} {a : Nat} (h : a :: r <:+ t) : r <:+ t := (List.suffix_cons a r).trans h
theorem sfx_dr {t r : List Nat} (h : r <:+ t) (n : Nat) : r.drop n <:+ t := (List.drop_suffix n r).trans h
theorem tw_split {sg : List Nat} {d r2 : List Nat} (h : ∀ a ∈ d, a ∈ sg) (h2 : ∀ a r, r2 = a :: r → a ∉ sg) : ((d ++ r2).takeWhile fun a => decide (a ∈ sg)) = d ∧ ((d ++ r2).dropWhile fun a => decide (a ∈ sg)) = r2 := by
 induction d with
 | nil =>
  cases r2 with
  | nil => exact ⟨rfl, rfl⟩
  | cons a r =>
   have := h2 a r rfl
   simp [this]
 | cons b d ih =>
  obtain ⟨i1, i2⟩ := ih fun a ha => h a (.tail _ ha)
  have hb := h b (.head _)
  simp only [List.cons_append, List.takeWhile_cons, List.dropWhile_cons, hb, decide_true, if_true, i1, i2, and_self]
section
variable {C : Fm} {x : HP → Prop} {lc : Loc} {hp : HP} {k : V → Loc → HP → Prop} {c : Addr} {t rest : List Nat}
theorem c_is_done (hs : rest <:+ t) (hz : t.length ≤ 1000000) (hrm : 1 ≤ C.rm) (h : k (.bool rest.isEmpty) lc (hp.set c (cuR t rest))) : OpCall C (.ref 119) [.ref c] k x lc (hp.set c (cuR t rest)) := by
 refine OpCall.fn 0 (fn_119 _) fl_119 rfl (ds := []) (fun _ => rfl) (by walk_at "o") fun C' hC => ?_
 repeat walk1
 have hl := sfx_le hs
 rw [show decide ((t.length : Int) ≤ ((t.length - rest.length : Nat) : Int)) = rest.isEmpty by cases rest <;> simp at * <;> exact oq7 hl]
 exact h
theorem c_peek (hs : rest <:+ t) (hz : t.length ≤ 1000000) (d : Nat) (hrm : 1 ≤ C.rm) (h : k (.str ((rest.drop d).take 1)) lc (hp.set c (cuR t rest))) : OpCall C (.ref 127) [.ref c, .int d] k x lc (hp.set c (cuR t rest)) := by
 refine OpCall.fn 0 (fn_127 _) fl_127 rfl (ds := []) (fun _ => rfl) (by walk_at "o") fun C' hC => ?_
 have hl := sfx_le hs
 repeat' walk1
 ·rename_i q
  have q := of_decide_eq_true q
  have hd : d < rest.length := by exact oq8 q
  refine OpSub.str (by walk_at "o") (by walk_at "o") (c := rest[d]) (by rw [show (((t.length - rest.length : Nat) : Int) + (d : Int)).toNat = t.length - rest.length + d by exact op6, sfx_at hs, List.getElem?_eq_getElem hd]) ?_
  rw [List.drop_eq_getElem_cons hd] at h
  exact h
 ·rename_i q
  have q := of_decide_eq_false (by simpa only [Bool.not_eq_true] using q)
  rw [List.drop_eq_nil_of_le (by walk_at "o")] at h
  exact h
theorem c_peek0 (hs : rest <:+ t) (hz : t.length ≤ 1000000) (hrm : 1 ≤ C.rm) (h : k (.str (rest.take 1)) lc (hp.set c (cuR t rest))) : OpCall C (.ref 127) [.ref c] k x lc (hp.set c (cuR t rest)) := by
 refine OpCall.fn 0 (fn_127d _) fl_127 rfl (ds := [.int 0]) (fun _ => ⟨_, _, rfl, ⟨_, rfl⟩, rfl⟩) (by walk_at "o") fun C' hC => ?_
 have hl := sfx_le hs
 repeat' walk1
 ·rename_i q
  have q := of_decide_eq_true q
  have hd : 0 < rest.length := by exact ol7 q
  refine OpSub.str (by walk_at "o") (by walk_at "o") (c := rest[0]) (by rw [show (((t.length - rest.length : Nat) : Int) + 0).toNat = t.length - rest.length + 0 by exact ox6, sfx_at hs, List.getElem?_eq_getElem hd]) ?_
  cases rest with
  | nil => simp at hd
  | cons a r => exact h
 ·rename_i q
  have q := of_decide_eq_false (by simpa only [Bool.not_eq_true] using q)
  have : rest = [] := List.length_eq_zero_iff.mp (by walk_at "o")
  subst this
  exact h
theorem c_peekC {a : Nat} {r : List Nat} (hs : a :: r <:+ t) (hz : t.length ≤ 1000000) (hrm : 1 ≤ C.rm) (h : k (.str [a]) lc (hp.set c (cuR t (a :: r)))) : OpCall C (.ref 127) [.ref c] k x lc (hp.set c (cuR t (a :: r))) := c_peek0 hs hz hrm h
theorem c_peekN (hs : [] <:+ t) (hz : t.length ≤ 1000000) (hrm : 1 ≤ C.rm) (h : k (.str []) lc (hp.set c (cuR t []))) : OpCall C (.ref 127) [.ref c] k x lc (hp.set c (cuR t [])) := c_peek0 hs hz hrm h
theorem c_peek1C {a b : Nat} {r : List Nat} (hs : a :: b :: r <:+ t) (hz : t.length ≤ 1000000) (hrm : 1 ≤ C.rm) (h : k (.str [b]) lc (hp.set c (cuR t (a :: b :: r)))) : OpCall C (.ref 127) [.ref c, .int 1] k x lc (hp.set c (cuR t (a :: b :: r))) := c_peek hs hz 1 hrm h
theorem c_peek1N {a : Nat} (hs : [a] <:+ t) (hz : t.length ≤ 1000000) (hrm : 1 ≤ C.rm) (h : k (.str []) lc (hp.set c (cuR t [a]))) : OpCall C (.ref 127) [.ref c, .int 1] k x lc (hp.set c (cuR t [a])) := c_peek hs hz 1 hrm h
theorem c_starts (hs : rest <:+ t) (hz : t.length ≤ 1000000) (w : List Nat) (hw : w.length ≤ 1000) (hrm : 1 ≤ C.rm) (h : k (.bool (rest.take w.length == w)) lc (hp.set c (cuR t rest))) : OpCall C (.ref 134) [.ref c, .str w] k x lc (hp.set c (cuR t rest)) := by
 refine OpCall.fn 0 (fn_134 _) fl_134 rfl (ds := []) (fun _ => rfl) (by walk_at "o") fun C' hC => ?_
 have hl := sfx_le hs
 repeat walk1
 refine OpSlice.str (nn_some (by walk_at "o")) (nn_some (by walk_at "o")) (by walk_at "o") ?_
 rw [cut_sfx hs]
 repeat walk1
 exact h
theorem c_take (hs : rest <:+ t) (hz : t.length ≤ 1000000) (hrm : 2 ≤ C.rm) (h : k (.str (rest.take 1)) lc (hp.set c (cuR t (rest.drop 1)))) : OpCall C (.ref 141) [.ref c] k x lc (hp.set c (cuR t rest)) := by
 refine OpCall.fn 1 (fn_141 _) fl_141 rfl (ds := []) (fun _ => rfl) (by walk_at "o") fun C' hC => ?_
 have hl := sfx_le hs
 repeat walk1
 refine c_is_done (rest := rest) hs hz (by walk_at "o") ?_
 repeat' walk1
 ·rename_i q
  have : rest = [] := by simpa using q
  subst this
  exact h
 ·rename_i q
  cases rest with
  | nil => simp at q
  | cons a r =>
   refine OpSub.str (by walk_at "o") (by walk_at "o") (c := a) (by rw [show ((t.length - (a :: r).length : Nat) : Int).toNat = t.length - (a :: r).length + 0 by exact or0, sfx_at hs]; rfl) ?_
   repeat walk1
   refine s_at ?_
   repeat walk1
   simp only [List.length_cons, List.drop_succ_cons, List.drop_zero] at *
   rw [show ((t.length - (r.length + 1) : Nat) : Int) + 1 = ((t.length - r.length : Nat) : Int) by exact oq0 hl]
   exact h
theorem c_takeC {a : Nat} {r : List Nat} (hs : a :: r <:+ t) (hz : t.length ≤ 1000000) (hrm : 2 ≤ C.rm) (h : k (.str [a]) lc (hp.set c (cuR t r))) : OpCall C (.ref 141) [.ref c] k x lc (hp.set c (cuR t (a :: r))) := c_take hs hz hrm h
theorem c_skip (hs : rest <:+ t) (hz : t.length ≤ 1000000) (w : List Nat) (hw : w.length ≤ 1000) (hrm : 2 ≤ C.rm) (h : k (.bool (rest.take w.length == w)) lc (hp.set c (cuR t (if (rest.take w.length == w) = true then rest.drop w.length else rest)))) : OpCall C (.ref 148) [.ref c, .str w] k x lc (hp.set c (cuR t rest)) := by
 refine OpCall.fn 1 (fn_148 _) fl_148 rfl (ds := []) (fun _ => rfl) (by walk_at "o") fun C' hC => ?_
 have hl := sfx_le hs
 repeat walk1
 refine c_starts (rest := rest) hs hz w hw (by walk_at "o") ?_
 repeat' walk1
 ·rename_i q
  have q' : (rest.take w.length == w) = false := by simpa using q
  rw [q'] at h
  exact h
 ·rename_i q
  have q' : (rest.take w.length == w) = true := by simpa using q
  refine s_at ?_
  repeat walk1
  rw [q'] at h
  have hw2 : w.length ≤ rest.length := by
   have := congrArg List.length (eq_of_beq q')
   rw [List.length_take] at this
   exact oe7 this
  rw [if_pos rfl] at h
  unfold cuR at h
  rw [List.length_drop] at h
  rw [show ((t.length - rest.length : Nat) : Int) + (w.length : Int) = ((t.length - (rest.length - w.length) : Nat) : Int) by exact ot1 hw2 hl]
  exact h
theorem c_take_while (hs : rest <:+ t) (hz : t.length ≤ 1000000) (sg : List Nat) (hrm : 1 ≤ C.rm) (h : k (.str (rest.takeWhile fun a => decide (a ∈ sg))) lc (hp.set c (cuR t (rest.dropWhile fun a => decide (a ∈ sg))))) : OpCall C (.ref 155) [.ref c, .str sg] k x lc (hp.set c (cuR t rest)) := by
 refine OpCall.fn 0 (fn_155 _) fl_155 rfl (ds := []) (fun _ => rfl) (by walk_at "o") fun C' hC => ?_
 have hl := sfx_le hs
 repeat walk1
 let I9 : Nat → Loc → HP → Prop := fun n lc' hp' => Done (∃ d r2, d ++ r2 = rest ∧ n = r2.length ∧ (∀ a ∈ d, a ∈ sg) ∧ lc'.lookup (S "begun") = some (.int ((t.length - rest.length : Nat) : Int)) ∧ lc'.lookup (S "self") = some (.ref c) ∧ lc'.lookup (S "signs") = some (.str sg) ∧ hp' = hp.set c (cuR t r2))
 refine ⟨⟨I9, rest.length, ⟨[], rest, rfl, rfl, (fun _ h => nomatch h), by rfl, by rfl, by rfl, rfl⟩, ?_⟩⟩
 rintro n lc' hp' ⟨d, r2, rfl, rfl, h4, h5, h6, h7, rfl⟩
 have hs1 : r2 <:+ d ++ r2 := List.suffix_append d r2
 have hs2 : r2 <:+ t := hs1.trans hs
 have l2 := sfx_le hs2
 cases r2 with
 | nil =>
  repeat' walk1
  ·rename_i q
   simp at q
  ·refine OpSlice.str (nn_some (by walk_at "o")) (nn_some (by walk_at "o")) (by walk_at "o") ?_
   obtain ⟨e1, e2⟩ := tw_split (r2 := []) h4 (fun a r e => nomatch e)
   rw [e1, e2] at h
   rw [cut_btw hs hs1]
   have e9 : List.take ((d ++ []).length - ([] : List Nat).length) (d ++ []) = d := by simp
   rw [e9]
   exact h
 | cons a r =>
  repeat' walk1
  ·refine OpSub.str (by walk_at "o") (by walk_at "o") (c := a) (by rw [show ((t.length - (a :: r).length : Nat) : Int).toNat = t.length - (a :: r).length + 0 by exact or0, sfx_at hs2]; rfl) ?_
   repeat' walk1
   ·rename_i q
    refine s_at ?_
    repeat walk1
    refine ⟨r.length, by simp, ⟨d ++ [a], r, by simp, rfl, fun b hb => ?_, by assumption, by assumption, by assumption, ?_⟩⟩
    ·rcases List.mem_append.mp hb with hb | hb
     ·exact h4 b hb
     ·obtain rfl : b = a := by simpa using hb
      exact of_decide_eq_true q
    ·have e : (((t.length - (a :: r).length : Nat) : Int) + 1) = ((t.length - r.length : Nat) : Int) := by
      simp only [List.length_cons] at *
      exact oq0 l2
     rw [e]
   ·rename_i q
    have q := of_decide_eq_false (by simpa only [Bool.not_eq_true] using q)
    refine OpSlice.str (nn_some (by walk_at "o")) (nn_some (by walk_at "o")) (by walk_at "o") ?_
    obtain ⟨e1, e2⟩ := tw_split (r2 := a :: r) h4 (fun b r' e => by cases e; exact q)
    rw [e1, e2] at h
    rw [cut_btw hs hs1]
    rw [show (d ++ a :: r).length - (a :: r).length = d.length by simp, List.take_left]
    exact h
  ·rename_i q
   have q := of_decide_eq_false (by simpa only [Bool.not_eq_true] using q)
   simp only [List.length_cons] at *
   omega
noncomputable abbrev nameS : List Nat := L "abcdefghijklmnopqrstuvwxyzABCDEFGHIJKLMNOPQRSTUVWXYZ_0123456789"
noncomputable def nameP (rest : List Nat) : List Nat × List Nat := match rest with
 | [] => ([], [])
 | a :: r => if ([a] == L "" || (!decide (a ∈ nameS) || (decide (a ∈ L "0123456789") || false))) = true then ([], a :: r) else ((a :: r).takeWhile (fun a => decide (a ∈ nameS)), (a :: r).dropWhile (fun a => decide (a ∈ nameS)))
theorem nameP_cons (a : Nat) (r : List Nat) : nameP (a :: r) = if ([a] == L "" || (!decide (a ∈ nameS) || (decide (a ∈ L "0123456789") || false))) = true then ([], a :: r) else ((a :: r).takeWhile (fun a => decide (a ∈ nameS)), (a :: r).dropWhile (fun a => decide (a ∈ nameS))) := rfl
theorem c_name (hs : rest <:+ t) (hz : t.length ≤ 1000000) (hrm : 2 ≤ C.rm) (h : k (.str (nameP rest).1) lc (hp.set c (cuR t (nameP rest).2))) : OpCall C (.ref 177) [.ref c] k x lc (hp.set c (cuR t rest)) := by
 refine OpCall.fn 1 (fn_177 _) fl_177 rfl (ds := []) (fun _ => rfl) (by walk_at "o") fun C' hC => ?_
 have hr := hC.rm
 repeat walk1
 refine c_peek0 hs hz (by walk_at "o") ?_
 cases rest with
 | nil =>
  repeat' walk1
  exact h
 | cons a r =>
  show OpStore _ _ (.str [a]) _ _ _ _
  repeat' walk1
  all_goals rename_i q; rw [nameP_cons] at h
  ·rw [if_pos q] at h
   exact h
  ·rw [if_neg q] at h
   exact c_take_while hs hz _ (by walk_at "o") h
theorem bits_le {j : Int} (h : j.natAbs < 2 ^ 64) : Builtin.Int.intBits j ≤ 64 := by
 unfold Builtin.Int.intBits
 split
 ·omega
 ·rename_i q
  have : j.natAbs ≠ 0 := by simpa using q
  have := (Nat.log2_lt this).mpr h
  exact or10 this
theorem OpBin.mulR {i j : Int} (hj : j.natAbs < 2 ^ 64) (h : k (.int (i * j)) lc hp) : OpBin C .Mult (.int i) (.int j) k x lc hp := OpBin.mulI (IntMulOk.of_right (bits_le hj)) h
theorem hexN_lt {a : Nat} (h : I16.isHex a = true) : 0 ≤ I16.hexN a ∧ I16.hexN a < 16 := by
 simp only [I16.isHex, Bool.or_eq_true, Bool.and_eq_true, decide_eq_true_eq] at h
 unfold I16.hexN
 split
 ·omega
 ·split <;> omega
noncomputable def codedP (sg : List Nat) (b : Int) : Nat → Int → List Nat → Int × List Nat
 | 0, c, r => (c, r)
 | _ + 1, c, [] => (c, [])
 | n + 1, c, a :: r => if a ∈ sg then codedP sg b n (c * b + I16.hexN a) r else (c, a :: r)
theorem codedP_sfx (sg : List Nat) (b : Int) : ∀ (n : Nat) (c : Int) (r : List Nat), (codedP sg b n c r).2 <:+ r
 | 0, c, r => List.suffix_refl _
 | n + 1, c, [] => List.suffix_refl _
 | n + 1, c, a :: r => by
  unfold codedP
  split
  ·exact (codedP_sfx sg b n _ r).trans (List.suffix_cons a r)
  ·exact List.suffix_refl _
theorem c_coded (hs : rest <:+ t) (hz : t.length ≤ 1000000) (sg : List Nat) (hx : ∀ a ∈ sg, I16.isHex a = true) (n : Nat) (hn : n ≤ 3) (b : Int) (hb : 2 ≤ b ∧ b ≤ 16) (hrm : 3 ≤ C.rm) (h0 : 0 ≤ (codedP sg b n 0 rest).1) (h1 : (codedP sg b n 0 rest).1 ≤ 1114111)
  (h : k (.str [(codedP sg b n 0 rest).1.toNat]) lc (hp.set c (cuR t (codedP sg b n 0 rest).2))) : OpCall C (.ref 205) [.ref c, .str sg, .int n, .int b] k x lc (hp.set c (cuR t rest)) := by
 refine OpCall.fn 2 (fn_205 _) fl_205 rfl (ds := []) (fun _ => rfl) (by walk_at "o") fun C' hC => ?_
 have hr := hC.rm
 repeat walk1
 let I9 : Nat → Loc → HP → Prop := fun m lc' hp' => Done (∃ r2 cd, r2 <:+ t ∧ codedP sg b m cd r2 = codedP sg b n 0 rest ∧ m ≤ n ∧ 0 ≤ cd ∧ lc'.lookup (S "code") = some (.int cd) ∧ lc'.lookup (S "taken") = some (.int ((n - m : Nat) : Int)) ∧ lc'.lookup (S "self") = some (.ref c) ∧ lc'.lookup (S "signs") = some (.str sg) ∧ lc'.lookup (S "most") = some (.int n) ∧ lc'.lookup (S "base") = some (.int b) ∧ hp' = hp.set c (cuR t r2))
 refine ⟨⟨I9, n, ⟨rest, 0, hs, rfl, Nat.le_refl _, by omega, by rfl, by rw [Nat.sub_self]; rfl, by rfl, by rfl, by rfl, by rfl, rfl⟩, ?_⟩⟩
 rintro m lc' hp' ⟨r2, cd, hs2, e, hm, c0, h2, h3, h4, h5, h6, h7, rfl⟩
 have fin : codedP sg b n 0 rest = (cd, r2) → cd ≤ 1114111 → OpCall C' (.raw (.builtin "chr")) [.int cd] (fun v lc_1 hp_1 => k v lc hp_1) x lc' (hp.set c (cuR t r2)) := fun e2 hc => OpCall.chr c0 hc (by rw [e2] at h; exact h)
 repeat' walk1
 ·rename_i q
  have q := of_decide_eq_true q
  obtain ⟨m, rfl⟩ : ∃ m', m = m' + 1 := ⟨m - 1, by exact oy2 q⟩
  cases r2 with
  | nil =>
   refine c_peekN hs2 hz (by walk_at "o") ?_
   repeat walk1
   rw [← e] at h1
   exact fin (by rw [← e]; rfl) h1
  | cons a r =>
   have e3 : codedP sg b (m + 1) cd (a :: r) = if a ∈ sg then codedP sg b m (cd * b + I16.hexN a) r else (cd, a :: r) := rfl
   refine c_peekC hs2 hz (by walk_at "o") ?_
   repeat walk1
   refine c_peekC hs2 hz (by walk_at "o") ?_
   repeat' walk1
   ·rename_i qq
    have hin : a ∈ sg := of_decide_eq_true qq
    rw [if_pos hin] at e3
    have hh := hexN_lt (hx a hin)
    refine OpBin.mulR (by walk_at "o") ?_
    repeat walk1
    refine c_takeC hs2 hz (by walk_at "o") ?_
    repeat walk1
    refine OpCall.int16 (hx a hin) ?_
    repeat walk1
    have hcb0 : 0 ≤ cd * b := Int.mul_nonneg c0 (by walk_at "o")
    refine ⟨m, by exact on2, ⟨r, cd * b + I16.hexN a, sfx_tl hs2, by rw [← e, e3], by exact ot0 hm, by exact ow8 hh hcb0, by walk_at "lk", ?_, by walk_at "lk", by walk_at "lk", by walk_at "lk", by walk_at "lk", rfl⟩⟩
    rw [show ((n - m : Nat) : Int) = ((n - (m + 1) : Nat) : Int) + 1 by exact oz3 hm]
    walk_at "lk"
   ·rename_i qq
    have hin : ¬ a ∈ sg := of_decide_eq_false (by simpa only [Bool.not_eq_true] using qq)
    rw [if_neg hin] at e3
    rw [← e] at h1
    rw [e3] at e h1
    exact fin e.symm h1
 ·rename_i q
  have q := of_decide_eq_false (by simpa only [Bool.not_eq_true] using q)
  obtain rfl : m = 0 := by exact ot6 q hm
  rw [← e] at h1
  exact fin e.symm h1
noncomputable def plainE (a : Nat) : Option Nat := if a = 110 then some 10 else if a = 116 then some 9 else if a = 114 then some 13 else if a = 102 then some 12 else if a = 118 then some 11 else if a = 97 then some 7 else if a = 98 then some 8 else none
theorem look_esc (a : Nat) : lookD [a] escK escV = (plainE a).map fun n => .int n := by
 have hs : ∀ b : Nat, ([b] = [a]) = (a = b) := fun b => by simp [eq_comm]
 unfold escK escV plainE
 simp only [lookD, show L "n" = [110] from rfl, show L "t" = [116] from rfl, show L "r" = [114] from rfl, show L "f" = [102] from rfl, show L "v" = [118] from rfl, show L "a" = [97] from rfl, show L "b" = [98] from rfl, hs]
 repeat (split; · rfl)
 rfl
noncomputable abbrev octS : List Nat := L "01234567"
noncomputable abbrev hexS : List Nat := L "0123456789abcdefABCDEF"
noncomputable def escP : List Nat → List Nat × List Nat
 | [] => ([], [])
 | a :: r =>
  match plainE a with
  | some n => ([n], r)
  | none => if a ∈ octS then ([(codedP octS 8 3 0 (a :: r)).1.toNat], (codedP octS 8 3 0 (a :: r)).2) else
   match r with
   | [] => ([a], [])
   | b :: r' => if a = 120 ∧ b ∈ hexS then ([(codedP hexS 16 2 0 (b :: r')).1.toNat], (codedP hexS 16 2 0 (b :: r')).2) else ([a], b :: r')
theorem codedP_bd (sg : List Nat) (hx : ∀ a ∈ sg, I16.isHex a = true) (b : Int) (hb : 2 ≤ b ∧ b ≤ 16) : ∀ (n : Nat) (c : Int) (r : List Nat), 0 ≤ c → n ≤ 3 → 0 ≤ (codedP sg b n c r).1 ∧ (codedP sg b n c r).1 < (c + 1) * 16 ^ n
 | 0, c, r, h, _ => by unfold codedP; simp; exact oe13 h
 | n + 1, c, [], h, hn => by
  unfold codedP
  have : (1 : Int) ≤ 16 ^ (n + 1) := by
   have : (0 : Int) < 16 ^ (n + 1) := Int.pow_pos (by walk_at "o")
   exact ox2 this
  have h2 := Int.mul_le_mul_of_nonneg_left this (show 0 ≤ c + 1 by exact on7 h)
  dsimp only
  exact ot4 h h2
 | n + 1, c, a :: r, h, hn => by
  unfold codedP
  split
  ·rename_i q
   have hh := hexN_lt (hx a q)
   have hcb0 : 0 ≤ c * b := Int.mul_nonneg h (by walk_at "o")
   have hcb : c * b ≤ c * 16 := Int.mul_le_mul_of_nonneg_left hb.2 h
   obtain ⟨i1, i2⟩ := codedP_bd sg hx b hb n (c * b + I16.hexN a) r (by walk_at "o") (by walk_at "o")
   refine ⟨i1, Int.lt_of_lt_of_le i2 ?_⟩
   have hp : (0 : Int) < 16 ^ n := Int.pow_pos (by walk_at "o")
   rw [Int.pow_succ, Int.mul_comm (16 ^ n) 16, ← Int.mul_assoc]
   exact Int.mul_le_mul_of_nonneg_right (by walk_at "o") (by walk_at "o")
  ·have : (1 : Int) ≤ 16 ^ (n + 1) := by
    have : (0 : Int) < 16 ^ (n + 1) := Int.pow_pos (by walk_at "o")
    exact ox2 this
   have h2 := Int.mul_le_mul_of_nonneg_left this (show 0 ≤ c + 1 by exact on7 h)
   dsimp only
   exact ot4 h h2
theorem oct_hex : ∀ a ∈ octS, I16.isHex a = true := by decide
theorem hex_hex : ∀ a ∈ hexS, I16.isHex a = true := by decide
theorem plainE_lt {a n : Nat} (h : plainE a = some n) : n < 128 := by
 unfold plainE at h
 repeat (split at h; · injection h with h; omega)
 cases h
theorem c_escape (hs : rest <:+ t) (hz : t.length ≤ 1000000) (hrm : 4 ≤ C.rm) (h : k (.str (escP rest).1) lc (hp.set c (cuR t (escP rest).2))) : OpCall C (.ref 212) [.ref c] k x lc (hp.set c (cuR t rest)) := by
 refine OpCall.fn 3 (fn_212 _) fl_212 rfl (ds := []) (fun _ => rfl) (by walk_at "o") fun C' hC => ?_
 have hr := hC.rm
 repeat walk1
 cases rest with
 | nil =>
  refine c_peekN hs hz (by walk_at "o") ?_
  repeat walk1
  exact h
 | cons a r =>
  refine c_peekC hs hz (by walk_at "o") ?_
  repeat walk1
  refine OpCmp.inD IsDct.f escK_nd ?_
  rw [look_esc]
  cases hpe : plainE a with
  | some n =>
   have e : escP (a :: r) = ([n], r) := by simp only [escP, hpe]
   rw [e] at h
   have hlt := plainE_lt hpe
   repeat walk1
   refine c_takeC hs hz (by walk_at "o") ?_
   repeat walk1
   refine OpSub.dict IsDct.f escK_nd (y := .int n) (by rw [look_esc, hpe]; rfl) ?_
   repeat walk1
   exact h
  | none =>
   have ho := codedP_bd octS oct_hex 8 (by walk_at "o") 3 0 (a :: r) (by walk_at "o") (by walk_at "o")
   repeat' walk1
   ·rename_i q
    have q := of_decide_eq_true q
    have e : escP (a :: r) = ([(codedP octS 8 3 0 (a :: r)).1.toNat], (codedP octS 8 3 0 (a :: r)).2) := by simp only [escP, hpe]; rw [if_pos q]
    rw [e] at h
    refine c_coded (n := 3) hs hz octS oct_hex (by walk_at "o") 8 (by walk_at "o") (by walk_at "o") ho.1 (by have := ho.2; omega) h
   ·rename_i q1 q2
    have q1 := of_decide_eq_false (by simpa only [Bool.not_eq_true] using q1)
    have q2 : a = 120 := by simpa [L] using q2
    subst q2
    cases r with
    | nil =>
     have e : escP [120] = ([120], []) := by simp only [escP, hpe]; rw [if_neg q1]
     rw [e] at h
     refine c_peek1N hs hz (by walk_at "o") ?_
     repeat walk1
     refine c_takeC hs hz (by walk_at "o") ?_
     repeat walk1
     exact h
    | cons b r =>
     refine c_peek1C hs hz (by walk_at "o") ?_
     repeat walk1
     refine c_peek1C hs hz (by walk_at "o") ?_
     repeat' walk1
     ·rename_i q3
      have q3 := of_decide_eq_true q3
      have e : escP (120 :: b :: r) = ([(codedP hexS 16 2 0 (b :: r)).1.toNat], (codedP hexS 16 2 0 (b :: r)).2) := by simp only [escP, hpe]; rw [if_neg q1, if_pos ⟨trivial, q3⟩]
      have hx := codedP_bd hexS hex_hex 16 (by walk_at "o") 2 0 (b :: r) (by walk_at "o") (by walk_at "o")
      rw [e] at h
      refine c_takeC hs hz (by walk_at "o") ?_
      repeat walk1
      refine c_coded (n := 2) (sfx_tl hs) hz hexS hex_hex (by walk_at "o") 16 (by walk_at "o") (by walk_at "o") hx.1 (by have := hx.2; omega) h
     ·rename_i q3
      have q3 := of_decide_eq_false (by simpa only [Bool.not_eq_true] using q3)
      have e : escP (120 :: b :: r) = ([120], b :: r) := by simp only [escP, hpe]; rw [if_neg q1, if_neg fun z => q3 z.2]
      rw [e] at h
      refine c_takeC hs hz (by walk_at "o") ?_
      repeat walk1
      exact h
   ·rename_i q1 q2
    have q1 := of_decide_eq_false (by simpa only [Bool.not_eq_true] using q1)
    have q2 : a ≠ 120 := by simpa [L] using q2
    have e : escP (a :: r) = ([a], r) := by
     simp only [escP, hpe]
     rw [if_neg q1]
     cases r with
     | nil => rfl
     | cons b r => exact if_neg fun z => q2 z.1
    rw [e] at h
    refine c_takeC hs hz (by walk_at "o") ?_
    repeat walk1
    exact h
end
end
section
section
variable {C : Fm} {x : HP → Prop} {lc : Loc} {hp : HP} {k : V → Loc → HP → Prop} {c r : Addr} {t rest : List Nat}
theorem mk_Position (a b d : V) (hrm : 2 ≤ C.rm) (h : ∀ v, k v lc hp) : OpCall C (.ref 46) [a, b, d] k x lc hp := by
 have n1 : S "offset" ≠ S "line" := by decide
 have n2 : S "offset" ≠ S "column" := by decide
 have n3 : S "line" ≠ S "column" := by decide
 refine OpCall.clsD 0 (mk_46 _) (fn_36 _) fl_36 rfl (ds := []) (fun _ => rfl) (by walk_at "o") (.inst 46 [S "offset", S "line", S "column"] [a, b, d]) (fun q ha C' hC => ?_) (h _)
 repeat walk1
 refine OpSetAttr.own (HP.set_get ..) (se_46_offset _) (by simp) ?_
 repeat walk1
 refine OpSetAttr.own (HP.set_get ..) (se_46_line _) (by simp [putF]) ?_
 repeat walk1
 refine OpSetAttr.own (HP.set_get ..) (se_46_column _) (by simp [putF, n1]) ?_
 repeat walk1
 refine ⟨⟨rfl, .inst 46 [S "offset", S "line", S "column"] [a, b, d], ?_, rfl⟩⟩
 simp only [HP.set_set, putF, if_neg n1, if_neg n2, if_neg n3]
theorem c_position_of (t : List Nat) (hz : t.length ≤ 1000000) (i : Int) (hrm : 4 ≤ C.rm) (h : ∀ v, k v lc hp) : OpCall C (.ref 57) [.str t, .int i] k x lc hp := by
 refine OpCall.fn 3 (fn_57 _) fl_57 rfl (ds := []) (fun _ => rfl) (by walk_at "o") fun C' hC => ?_
 have hr := hC.rm
 repeat walk1
 let I9 : Nat → Loc → HP → Prop := fun i2 lc' hp' => Done (hp' = hp ∧ lc'.lookup (S "text") = some (.str t) ∧ lc'.lookup (S "at") = some (.int (min (max i 0) t.length)) ∧ ∃ a b, lc'.lookup (S "line") = some (.int a) ∧ lc'.lookup (S "begun") = some (.int b))
 refine ⟨⟨_, I9, .inr (.inr ⟨0, min (max i 0) t.length, rfl, rfl, small_range _ _ (by walk_at "o") (by walk_at "o") (by walk_at "o") (by walk_at "o")⟩), ⟨rfl, by rfl, by rfl, 1, 0, by rfl, by rfl⟩, ?_, ?_⟩⟩
 ·rintro i2 y lc' hp' hy ⟨rfl, h1, h2, a, b, h3, h4⟩
  obtain ⟨j, hj, rfl⟩ : ∃ j : Nat, j < t.length ∧ y = .int j := by
   rw [List.getElem?_map] at hy
   cases q : (List.range (min (max i 0) t.length - 0 : Int).toNat)[i2]? with
   | none => rw [q] at hy; cases hy
   | some j =>
    rw [q] at hy
    have := List.mem_of_getElem? q
    rw [List.mem_range] at this
    refine ⟨j, by exact oe6 this, ?_⟩
    simp only [Option.map_some, Option.some.injEq] at hy
    rw [← hy, Int.zero_add]
  repeat walk1
  refine OpSub.str (by walk_at "o") (by walk_at "o") (c := t[j]) (by rw [Int.toNat_natCast, List.getElem?_eq_getElem hj]) ?_
  repeat' walk1
  ·exact ⟨rfl, by walk_at "lk", by walk_at "lk", a + 1, _, by walk_at "lk", by walk_at "lk"⟩
  ·exact ⟨rfl, by walk_at "lk", by walk_at "lk", a, b, by walk_at "lk", by walk_at "lk"⟩
 ·rintro lc' hp' ⟨rfl, h1, h2, a, b, h3, h4⟩
  repeat walk1
  exact mk_Position _ _ _ (by walk_at "o") h
theorem c_mkX (a b : V) (hrm : 3 ≤ C.rm) (h : ∀ e od hp2, hp2 e = some (.exc od) → HP.le hp (hp2.del e) → k (.ref e) lc hp2) : OpCall C (.ref 95) [a, b] k x lc hp := by
 refine OpCall.clsX 1 (fn_72 _) fl_72 rfl (by walk_at "o") (by simp [sizeLine_eq]) fun e he C' hC => ?_
 refine Tri.mono (show SXs C' _ (fun fl lc2 hp2 => Done (retV fl = .none ∧ k (.ref e) lc hp2)) x _ _ from ?_) (fun _ _ _ d => d.out) fun _ q => q
 repeat walk1
 refine OpCall.excInit (HP.set_get ..) ?_
 repeat walk1
 refine OpSetAttr.exc0 (HP.set_get ..) (tx_what _) fun dx hdx => ?_
 obtain ⟨hdx, hne⟩ := HP.set_none hdx
 repeat walk1
 refine OpSetAttr.exc (dx := dx) (HP.get_ne (fun q => hne q.symm) (HP.set_get ..)) (HP.set_get ..) (tx_at _) (by simp) ?_
 repeat walk1
 refine ⟨rfl, h e (some dx) _ (HP.get_ne (fun q => hne q.symm) (HP.get_ne (fun q => hne q.symm) (HP.set_get ..))) ?_⟩
 refine HP.le_del he ?_
 exact HP.le_set' hdx (HP.le_set' hdx (HP.le_set' he (HP.le_set' hdx (HP.le_set' he (HP.le_refl _)))))
noncomputable def XOk (x : HP → Prop) (hp : HP) (c : Addr) (t : List Nat) : Prop := ∀ rest hp2, HP.le (hp.set c (cuR t rest)) hp2 → x hp2
theorem c_failed (hr : hp r = some (rdr c)) (hn : r ≠ c) (hz : t.length ≤ 1000000) (w : List Nat) (i : Int) (hrm : 5 ≤ C.rm) (h : ∀ e od hp2, hp2 e = some (.exc od) → HP.le (hp.set c (cuR t rest)) (hp2.del e) → k (.ref e) lc hp2) : OpCall C (.ref 746) [.ref r, .str w, .int i] k x lc (hp.set c (cuR t rest)) := by
 refine OpCall.fn 4 (fn_746 _) fl_746 rfl (ds := []) (fun _ => rfl) (by walk_at "o") fun C' hC => ?_
 have hrm := hC.rm
 repeat walk1
 refine c_position_of t hz i (by walk_at "o") fun v => ?_
 repeat walk1
 refine c_mkX _ _ (by walk_at "o") fun e od hp2 h1 h2 => ?_
 exact h e od hp2 h1 h2
end
end
section
section
variable {C : Fm} {x : HP → Prop} {lc : Loc} {hp : HP} {k : V → Loc → HP → Prop} {c r : Addr} {t rest : List Nat}
theorem escP_cons (a : Nat) (r : List Nat) : escP (a :: r) = match plainE a with
  | some n => ([n], r)
  | none => if a ∈ octS then ([(codedP octS 8 3 0 (a :: r)).1.toNat], (codedP octS 8 3 0 (a :: r)).2) else
   match r with
   | [] => ([a], [])
   | b :: r' => if a = 120 ∧ b ∈ hexS then ([(codedP hexS 16 2 0 (b :: r')).1.toNat], (codedP hexS 16 2 0 (b :: r')).2) else ([a], b :: r') := rfl
theorem escP_shape (rest : List Nat) : (rest = [] ∧ escP rest = ([], [])) ∨ ∃ n r', escP rest = ([n], r') ∧ r' <:+ rest ∧ r'.length < rest.length := by
 cases rest with
 | nil => exact .inl ⟨rfl, rfl⟩
 | cons a r =>
  refine .inr ?_
  rw [escP_cons]
  cases plainE a with
  | some n => exact ⟨n, r, rfl, List.suffix_cons a r, by simp⟩
  | none =>
   dsimp only
   by_cases q : a ∈ octS
   ·rw [if_pos q]
    have e3 : codedP octS 8 3 0 (a :: r) = codedP octS 8 2 (0 * 8 + I16.hexN a) r := by
     show (if a ∈ octS then _ else _) = _
     rw [if_pos q]
    refine ⟨_, _, rfl, codedP_sfx .., ?_⟩
    rw [e3]
    have := (codedP_sfx octS 8 2 (0 * 8 + I16.hexN a) r).length_le
    simp only [List.length_cons]; exact oe3 this
   ·rw [if_neg q]
    cases r with
    | nil => exact ⟨a, [], rfl, List.suffix_cons a [], by simp⟩
    | cons b r =>
     dsimp only
     split
     ·refine ⟨_, _, rfl, (codedP_sfx ..).trans (List.suffix_cons a _), ?_⟩
      have := (codedP_sfx hexS 16 2 0 (b :: r)).length_le
      simp only [List.length_cons] at *; exact oc12 this
     ·exact ⟨a, b :: r, rfl, List.suffix_cons a _, by simp⟩
noncomputable def codeP (s : Nat) (rest : List Nat) : Option (Nat × List Nat) :=
 if s = 92 then (if rest.take 1 = [10] then none else match (escP rest).1 with
  | [] => none
  | n :: _ => if 127 < n then none else some (n, (escP rest).2))
 else if 127 < s then none else some (s, rest)
theorem c_code_of (hr : hp r = some (rdr c)) (hn : r ≠ c) (hs : rest <:+ t) (hz : t.length ≤ 1000000) (s : Nat) (b : Int) (hrm : 6 ≤ C.rm) (hx : codeP s rest = none → XOk x hp c t)
  (h : ∀ n r', codeP s rest = some (n, r') → k (.int n) lc (hp.set c (cuR t r'))) : OpCall C (.ref 809) [.ref r, .str [s], .int b] k x lc (hp.set c (cuR t rest)) := by
 refine OpCall.fn 5 (fn_809 _) fl_809 rfl (ds := []) (fun _ => rfl) (by walk_at "o") fun C' hC => ?_
 have hrm := hC.rm
 repeat' walk1
 ·rename_i q
  have q : s = 92 := by simpa [L] using q
  subst q
  refine c_peek0 hs hz (by walk_at "o") ?_
  have e0 : codeP 92 rest = if rest.take 1 = [10] then none else match (escP rest).1 with
   | [] => none
   | n :: _ => if 127 < n then none else some (n, (escP rest).2) := rfl
  repeat' walk1
  ·rename_i q
   have q : rest.take 1 = [10] := by simpa [L] using q
   rw [if_pos q] at e0
   exact c_failed hr hn hz _ b (by walk_at "o") fun e od hp2 h1 h2 => ⟨⟨e, od, rfl, h1, hx e0 _ _ h2⟩⟩
  ·rename_i q
   have q : ¬ rest.take 1 = [10] := by simpa [L] using q
   rw [if_neg q] at e0
   refine c_escape hs hz (by walk_at "o") ?_
   rcases escP_shape rest with ⟨h0, e⟩ | ⟨n, r', e, sf, ln⟩
   ·rw [e]
    repeat walk1
    rw [e] at e0
    exact c_failed hr hn hz _ b (by walk_at "o") fun e od hp2 h1 h2 => ⟨⟨e, od, rfl, h1, hx e0 _ _ h2⟩⟩
   ·rw [e] at e0 ⊢
    dsimp only at e0 ⊢
    repeat' walk1
    ·rename_i q3
     have q3 := of_decide_eq_true q3
     rw [if_pos (by walk_at "o")] at e0
     exact c_failed hr hn hz _ b (by walk_at "o") fun e od hp2 h1 h2 => ⟨⟨e, od, rfl, h1, hx e0 _ _ h2⟩⟩
    ·rename_i q3
     have q3 := of_decide_eq_false (by simpa only [Bool.not_eq_true] using q3)
     rw [if_neg (by walk_at "o")] at e0
     exact h n r' e0
 ·rename_i q1 q2
  have q1 : s ≠ 92 := by simpa [L] using q1
  have q2 := of_decide_eq_true q2
  have e0 : codeP s rest = none := by unfold codeP; rw [if_neg q1, if_pos (by walk_at "o")]
  exact c_failed hr hn hz _ b (by walk_at "o") fun e od hp2 h1 h2 => ⟨⟨e, od, rfl, h1, hx e0 _ _ h2⟩⟩
 ·rename_i q1 q2
  have q1 : s ≠ 92 := by simpa [L] using q1
  have q2 := of_decide_eq_false (by simpa only [Bool.not_eq_true] using q2)
  refine h s rest ?_
  unfold codeP
  rw [if_neg q1, if_neg (by walk_at "o")]
theorem codeP_sfx {s : Nat} {rest : List Nat} {n : Nat} {r' : List Nat} (h : codeP s rest = some (n, r')) : r' <:+ rest ∧ n ≤ 127 := by
 unfold codeP at h
 split at h
 ·split at h
  ·cases h
  ·rcases escP_shape rest with ⟨h0, e⟩ | ⟨m, r2, e, sf, ln⟩
   ·rw [e] at h; cases h
   ·rw [e] at h
    dsimp only at h
    split at h
    ·cases h
    ·injection h with h
     injection h with h1 h2
     subst h1 h2
     exact ⟨sf, by omega⟩
 ·split at h
  ·cases h
  ·injection h with h
   injection h with h1 h2
   subst h1 h2
   exact ⟨List.suffix_refl _, by omega⟩
noncomputable def memP : List Nat → Option (Nat × List Nat)
 | [] => none
 | a :: r => if a = 10 then none else codeP a r
theorem c_member {a : Nat} {r1 : List Nat} (hr : hp r = some (rdr c)) (hn : r ≠ c) (hs : a :: r1 <:+ t) (hz : t.length ≤ 1000000) (hrm : 7 ≤ C.rm) (hx : memP (a :: r1) = none → XOk x hp c t)
  (h : ∀ n r', memP (a :: r1) = some (n, r') → k (.int n) lc (hp.set c (cuR t r'))) : OpCall C (.ref 849) [.ref r] k x lc (hp.set c (cuR t (a :: r1))) := by
 refine OpCall.fn 6 (fn_849 _) fl_849 rfl (ds := []) (fun _ => rfl) (by walk_at "o") fun C' hC => ?_
 have hrm := hC.rm
 repeat walk1
 refine c_takeC hs hz (by walk_at "o") ?_
 repeat' walk1
 ·rename_i q
  have q : a = 10 := by simpa [L] using q
  exact c_failed hr hn hz _ _ (by walk_at "o") fun e od hp2 h1 h2 => ⟨⟨e, od, rfl, h1, hx (if_pos q) _ _ h2⟩⟩
 ·rename_i q
  have q : a ≠ 10 := by simpa [L] using q
  refine c_code_of hr hn (sfx_tl hs) hz a _ (by walk_at "o") (fun e => hx ((if_neg q).trans e)) fun n r' e => ?_
  refine h n r' ?_
  rw [← e]
  exact if_neg q
theorem memP_sfx {rest : List Nat} {n : Nat} {r' : List Nat} (h : memP rest = some (n, r')) : r' <:+ rest ∧ r'.length < rest.length ∧ n ≤ 127 := by
 cases rest with
 | nil => cases h
 | cons a r =>
  have h : (if a = 10 then none else codeP a r) = some (n, r') := h
  split at h
  ·cases h
  ·obtain ⟨h1, h2⟩ := codeP_sfx h
   exact ⟨h1.trans (List.suffix_cons a r), by have := h1.length_le; simp only [List.length_cons]; exact oe3 this, h2⟩
noncomputable def spnR (lo : Nat) : List Nat → Option ((Int × Int) × List Nat)
 | [] => some (((lo : Int), (lo : Int)), [])
 | [d] => some (((lo : Int), (lo : Int)), [d])
 | d :: b :: r2 => if d = 45 ∧ b ≠ 93 then (if ((b :: r2).take 2 == L "[:") = true then none else
   match memP (b :: r2) with
   | none => none
   | some (hi, r3) => if hi < lo then none else some (((lo : Int), (hi : Int)), r3)) else some (((lo : Int), (lo : Int)), d :: b :: r2)
noncomputable def spnP (rest : List Nat) : Option ((Int × Int) × List Nat) :=
 match memP rest with
 | none => none
 | some (lo, r1) => spnR lo r1
theorem c_span' {a : Nat} {ra : List Nat} (hr : hp r = some (rdr c)) (hn : r ≠ c) (hs : a :: ra <:+ t) (hz : t.length ≤ 1000000) (hrm : 8 ≤ C.rm) (hx : spnP (a :: ra) = none → XOk x hp c t)
  (h : ∀ lo hi r', spnP (a :: ra) = some ((lo, hi), r') → k (.tup [.int lo, .int hi]) lc (hp.set c (cuR t r'))) : OpCall C (.ref 842) [.ref r] k x lc (hp.set c (cuR t (a :: ra))) := by
 refine OpCall.fn 7 (fn_842 _) fl_842 rfl (ds := []) (fun _ => rfl) (by walk_at "o") fun C' hC => ?_
 have hrm := hC.rm
 repeat walk1
 refine c_member hr hn hs hz (by walk_at "o") (fun e => hx (by unfold spnP; rw [e])) fun lo r1 e1 => ?_
 obtain ⟨s1, l1, b1⟩ := memP_sfx e1
 have hs1 : r1 <:+ t := s1.trans hs
 have eS : spnP (a :: ra) = spnR lo r1 := by unfold spnP; rw [e1]
 clear e1 l1 s1
 repeat walk1
 match r1, hs1, eS with
 | [], hs1, eS =>
  refine c_peekN hs1 hz (by walk_at "o") ?_
  repeat walk1
  exact h _ _ _ eS
 | [d], hs1, eS =>
  refine c_peekC hs1 hz (by walk_at "o") ?_
  repeat' walk1
  ·exact h _ _ _ eS
  ·refine c_peek1N hs1 hz (by walk_at "o") ?_
   repeat walk1
   refine c_peek1N hs1 hz (by walk_at "o") ?_
   repeat walk1
   exact h _ _ _ eS
 | d :: b :: r2, hs1, eS =>
  have eS : spnP (a :: ra) = if d = 45 ∧ b ≠ 93 then (if ((b :: r2).take 2 == L "[:") = true then none else
   match memP (b :: r2) with
   | none => none
   | some (hi, r3) => if hi < lo then none else some (((lo : Int), (hi : Int)), r3)) else some (((lo : Int), (lo : Int)), d :: b :: r2) := eS
  refine c_peekC hs1 hz (by walk_at "o") ?_
  repeat' walk1
  ·rename_i q
   have q : d ≠ 45 := by simpa [L] using q
   rw [if_neg fun z => q z.1] at eS
   exact h _ _ _ eS
  ·refine c_peek1C hs1 hz (by walk_at "o") ?_
   repeat' walk1
   ·rename_i q1 q
    have q : b = 93 := by simpa [L] using q
    rw [if_neg fun z => z.2 q] at eS
    exact h _ _ _ eS
   ·refine c_peek1C hs1 hz (by walk_at "o") ?_
    repeat walk1
    rename_i q1 q2
    have q1 : d = 45 := by simpa [L] using q1
    have q2 : b ≠ 93 := by simpa [L] using q2
    rw [if_pos ⟨q1, q2⟩] at eS
    refine c_takeC hs1 hz (by walk_at "o") ?_
    repeat walk1
    refine c_starts (sfx_tl hs1) hz (L "[:") (by decide) (by walk_at "o") ?_
    repeat' walk1
    ·rename_i q3
     have q3 : ((b :: r2).take 2 == L "[:") = true := q3
     rw [if_pos q3] at eS
     exact c_failed hr hn hz _ _ (by walk_at "o") fun e od hp2 h1 h2 => ⟨⟨e, od, rfl, h1, hx eS _ _ h2⟩⟩
    ·rename_i q3
     have q3 : ¬ ((b :: r2).take 2 == L "[:") = true := q3
     rw [if_neg q3] at eS
     refine c_member hr hn (sfx_tl hs1) hz (by walk_at "o") (fun e => hx (by rw [eS, e])) fun hi r3 e2 => ?_
     rw [e2] at eS
     dsimp only at eS
     repeat' walk1
     ·rename_i q4
      have q4 := of_decide_eq_true q4
      rw [if_pos (by walk_at "o")] at eS
      exact c_failed hr hn hz _ _ (by walk_at "o") fun e od hp2 h1 h2 => ⟨⟨e, od, rfl, h1, hx eS _ _ h2⟩⟩
     ·rename_i q4
      have q4 := of_decide_eq_false (by simpa only [Bool.not_eq_true] using q4)
      rw [if_neg (by walk_at "o")] at eS
      exact h _ _ _ eS
end
end
section
section
variable {C : Fm} {x : HP → Prop} {lc : Loc} {hp : HP} {k : V → Loc → HP → Prop} {c r : Addr} {t rest : List Nat}
noncomputable def clsLook (nm : List Nat) : Option (List (Int × Int)) := (clsK.zip clsS).lookup nm
theorem look_zip (nm : List Nat) : ∀ (ks : List (List Nat)) (ss : List (List (Int × Int))), lookD nm ks (ss.map prs) = ((ks.zip ss).lookup nm).map prs
 | [], ss => by cases ss <;> rfl
 | k :: ks, [] => rfl
 | k :: ks, s :: ss => by
  rw [List.map_cons, List.zip_cons_cons, List.lookup_cons]
  unfold lookD
  by_cases q : k = nm
  ·rw [if_pos q]
   subst q
   simp
  ·rw [if_neg q]
   have : (nm == k) = false := beq_eq_false_iff_ne.mpr fun z => q z.symm
   rw [this]
   exact look_zip nm ks ss
theorem look_cls (nm : List Nat) : lookD nm clsK clsV = (clsLook nm).map prs := look_zip nm clsK clsS
theorem c_named_class (nm : List Nat) (hrm : 3 ≤ C.rm) (h : k (match clsLook nm with | some sp => csV sp | none => .none) lc hp) : OpCall C (.ref 467) [.str nm] k x lc hp := by
 refine OpCall.fn 2 (fn_467 _) fl_467 rfl (ds := []) (fun _ => rfl) (by walk_at "o") fun C' hC => ?_
 have hrm := hC.rm
 repeat walk1
 refine OpCall.get IsDct.f clsK_nd ?_
 rw [look_cls]
 cases e : clsLook nm with
 | none =>
  rw [e] at h
  repeat walk1
  exact h
 | some sp =>
  rw [e] at h
  show OpStore _ _ (prs sp) _ _ _ _
  repeat walk1
  exact mk_CharSet _ (by walk_at "o") h
noncomputable def nmdP (rest : List Nat) : Option (List (Int × Int) × List Nat) :=
 match clsLook (nameP rest).1 with
 | none => none
 | some sp => if ((nameP rest).2.take 2 == L ":]") = true then some (sp, (nameP rest).2.drop 2) else none
theorem nameP_sfx (rest : List Nat) : (nameP rest).2 <:+ rest := by
 cases rest with
 | nil => exact List.suffix_refl _
 | cons a r =>
  rw [nameP_cons]
  split
  ·exact List.suffix_refl _
  ·exact List.dropWhile_suffix _
theorem c_named {rest : List Nat} (hr : hp r = some (rdr c)) (hn : r ≠ c) (hs : 91 :: 58 :: rest <:+ t) (hz : t.length ≤ 1000000) (hrm : 8 ≤ C.rm) (hx : nmdP rest = none → XOk x hp c t)
  (h : ∀ sp r', nmdP rest = some (sp, r') → k (csV sp) lc (hp.set c (cuR t r'))) : OpCall C (.ref 835) [.ref r] k x lc (hp.set c (cuR t (91 :: 58 :: rest))) := by
 refine OpCall.fn 7 (fn_835 _) fl_835 rfl (ds := []) (fun _ => rfl) (by walk_at "o") fun C' hC => ?_
 have hrm := hC.rm
 have hs2 : rest <:+ t := sfx_tl (sfx_tl hs)
 repeat walk1
 refine c_skip hs hz (L "[:") (by decide) (by walk_at "o") ?_
 show SXs C' _ _ _ _ (hp.set c (cuR t rest))
 repeat walk1
 refine c_name hs2 hz (by walk_at "o") ?_
 repeat walk1
 have e0 : nmdP rest = match clsLook (nameP rest).1 with
  | none => none
  | some sp => if ((nameP rest).2.take 2 == L ":]") = true then some (sp, (nameP rest).2.drop 2) else none := rfl
 refine c_named_class _ (by walk_at "o") ?_
 cases e : clsLook (nameP rest).1 with
 | none =>
  repeat walk1
  rw [e] at e0
  exact c_failed hr hn hz _ _ (by walk_at "o") fun e od hp2 h1 h2 => ⟨⟨e, od, rfl, h1, hx e0 _ _ h2⟩⟩
 | some sp =>
  rw [e] at e0
  dsimp only at e0 ⊢
  repeat walk1
  refine c_skip ((nameP_sfx rest).trans hs2) hz (L ":]") (by decide) (by walk_at "o") ?_
  rw [show (L ":]").length = 2 from rfl]
  by_cases q : ((nameP rest).2.take 2 == L ":]") = true
  ·rw [if_pos q] at e0
   rw [q]
   repeat walk1
   exact h _ _ e0
  ·have q' : ((nameP rest).2.take 2 == L ":]") = false := by simpa using q
   rw [q']
   repeat walk1
   exact c_failed hr hn hz _ _ (by walk_at "o") fun e od hp2 h1 h2 => ⟨⟨e, od, rfl, h1, hx (by rw [e0, if_neg q]) _ _ h2⟩⟩
end
end
section
example : True := by
 k_with "c9_0" => first | ((with_reducible show OpCall _ (.ref 127) [.ref _] _ _ _ _); refine c_peek0 (by assumption) (by walk_at "o") (by walk_at "o") ?_) | ((with_reducible show OpCall _ (.ref 119) _ _ _ _ _); refine c_is_done (by assumption) (by walk_at "o") (by walk_at "o") ?_) | ((with_reducible show OpCall _ (.ref 141) _ _ _ _ _); refine c_take (by assumption) (by walk_at "o") (by walk_at "o") ?_) | ((with_reducible show OpCall _ (.ref 134) _ _ _ _ _); refine c_starts (by assumption) (by walk_at "o") _ (by decide) (by walk_at "o") ?_) | ((with_reducible show OpCall _ (.ref 439) _ _ _ _ _); refine c_key _ (by walk_at "o") ?_)
 trivial
local macro_rules | `(tactic| walk_at "OpCall ref") => `(tactic| k_extra "c9_0")
section
variable {C : Fm} {x : HP → Prop} {lc : Loc} {hp : HP} {k : V → Loc → HP → Prop} {c r : Addr} {t rest : List Nat}
theorem OpCall.frz1 {q : Addr} {l : List V} {f : V} (e : hp q = some (.list l)) (h : OpCall C f [.lst l] k x lc (hp.del q)) : OpCall C f [.ref q] k x lc hp := by
 intro Z s Q E us ok R d nn y
 obtain ⟨fu, u, rfl, d1, d2⟩ := den2 d
 obtain rfl : u = .ref q := d2
 obtain ⟨m, mu, fo, X, lo⟩ := R
 obtain ⟨Z', mu', z, dv, X'⟩ := X.freeze e rfl
 exact h Z' s Q E _ ok ⟨m, mu', fo, X', lo.mono z⟩ ⟨fu, _, rfl, d1.mono z, _, [], rfl, dv, rfl⟩ (nn.step z (Same.refl s)) (y.step z (Same.refl s))
theorem XOk.push {q : Addr} {o : O} (h : XOk x hp c t) (hq : hp q = none) (hn : q ≠ c) : XOk x (hp.set q o) c t := fun rest hp2 l => h rest hp2 (HP.le_trans (fun b ob e => by
 unfold HP.set at e ⊢
 by_cases z : b = c
 ·rw [if_pos z] at e ⊢; exact e
 ·rw [if_neg z] at e ⊢
  rw [if_neg fun y => by rw [y, hq] at e; cases e]
  exact e) l)
theorem XOk.out (h : XOk x hp c t) : XOk (fun hp2 => Done (∃ hp', HP.le hp' hp2 ∧ x hp')) hp c t := fun rest hp2 l => ⟨⟨hp2, HP.le_refl _, h rest hp2 l⟩⟩
theorem le_q {q : Addr} {o o' : O} (hq : hp q = none) (hn : q ≠ c) : HP.le (hp.set c o') (((hp.set q o).set c o').del q) := fun b ob e => by
 unfold HP.set at e
 unfold HP.del HP.set
 by_cases z : b = c
 ·rw [if_pos z] at e
  rw [if_neg (by rw [z]; exact fun y => hn y.symm), if_pos z]
  exact e
 ·rw [if_neg z] at e
  have : b ≠ q := fun y => by rw [y, hq] at e; cases e
  rw [if_neg this, if_neg z, if_neg this]
  exact e
noncomputable def clsP : Nat → Bool → List (Int × Int) → List Nat → Option (List (Int × Int) × List Nat)
 | 0, _, _, _ => none
 | n + 1, first, acc, rest => if (!first && rest.take 1 == L "]") = true then some (acc, rest.drop 1) else
  if rest.isEmpty = true then none else if (rest.take 2 == L "[:") = true then (match nmdP (rest.drop 2) with
   | none => none
   | some (sp, r') => clsP n false (acc ++ sp) r') else
   match spnP rest with
   | none => none
   | some (p, r') => clsP n false (acc ++ [p]) r'
theorem clsP_go {n : Nat} {first : Bool} {acc : List (Int × Int)} {rest : List Nat} (h : ¬ (!first && rest.take 1 == L "]") = true) : clsP (n + 1) first acc rest =
  if rest.isEmpty = true then none else if (rest.take 2 == L "[:") = true then (match nmdP (rest.drop 2) with
   | none => none
   | some (sp, r') => clsP n false (acc ++ sp) r') else
   match spnP rest with
   | none => none
   | some (p, r') => clsP n false (acc ++ [p]) r' := if_neg h
theorem nmdP_sfx {rest : List Nat} {sp : List (Int × Int)} {r' : List Nat} (h : nmdP rest = some (sp, r')) : r' <:+ rest ∧ sp.length ≤ 4 := by
 unfold nmdP at h
 cases e : clsLook (nameP rest).1 with
 | none => rw [e] at h; cases h
 | some sp2 =>
  rw [e] at h
  dsimp only at h
  split at h
  ·injection h with h
   injection h with h1 h2
   subst h1 h2
   refine ⟨(List.drop_suffix _ _).trans (nameP_sfx rest), ?_⟩
   unfold clsLook at e
   have key : ∀ p ∈ clsK.zip clsS, p.2.length ≤ 4 := by decide +kernel
   have : ∃ p ∈ clsK.zip clsS, p.2 = sp2 := by
    clear key
    generalize clsK.zip clsS = z at e
    induction z with
    | nil => cases e
    | cons q z ih =>
     obtain ⟨q1, q2⟩ := q
     rw [List.lookup_cons] at e
     split at e
     ·injection e with e; exact ⟨_, .head _, e⟩
     ·obtain ⟨p, h1, h2⟩ := ih e
      exact ⟨p, .tail _ h1, h2⟩
   obtain ⟨p, h1, rfl⟩ := this
   exact key p h1
  ·cases h
theorem spnP_sfx {rest : List Nat} {p : Int × Int} {r' : List Nat} (h : spnP rest = some (p, r')) : r' <:+ rest ∧ r'.length < rest.length := by
 unfold spnP at h
 cases e : memP rest with
 | none => rw [e] at h; cases h
 | some q =>
  obtain ⟨lo, r1⟩ := q
  rw [e] at h
  obtain ⟨s1, l1, b1⟩ := memP_sfx e
  have h : spnR lo r1 = some (p, r') := h
  have key : r' <:+ r1 := by
   match r1, h with
   | [], h => cases h; exact List.suffix_refl _
   | [d], h => cases h; exact List.suffix_refl _
   | d :: b :: r2, h =>
    have h : (if d = 45 ∧ b ≠ 93 then (if ((b :: r2).take 2 == L "[:") = true then none else
     match memP (b :: r2) with
     | none => none
     | some (hi, r3) => if hi < lo then none else some (((lo : Int), (hi : Int)), r3)) else some (((lo : Int), (lo : Int)), d :: b :: r2)) = some (p, r') := h
    split at h
    ·split at h
     ·cases h
     ·cases e2 : memP (b :: r2) with
      | none => rw [e2] at h; cases h
      | some q2 =>
       obtain ⟨hi, r3⟩ := q2
       rw [e2] at h
       dsimp only at h
       split at h
       ·cases h
       ·cases h
        exact (memP_sfx e2).1.trans (List.suffix_cons d _)
    ·cases h; exact List.suffix_refl _
  exact ⟨key.trans s1, Nat.lt_of_le_of_lt key.length_le l1⟩
theorem c_sign_class (hr : hp r = some (rdr c)) (hn : r ≠ c) (hs : rest <:+ t) (hz : t.length ≤ 10000) (b : Int) (hrm : 10 ≤ C.rm) (tu : Bool) (ht : (rest.take 1 == L "^") = tu) (hx : clsP (rest.length + 1) true [] (if tu = true then rest.drop 1 else rest) = none → XOk x hp c t)
  (h : ∀ ps r', clsP (rest.length + 1) true [] (if tu = true then rest.drop 1 else rest) = some (ps, r') → ps.length < 64 ∧ ∀ qs : List (Int × Int), qs.Perm (keptP ps) → qs.Pairwise (fun a b => ltP b a = false) → k (ndV (if tu = true then cmpl (mrg qs) else mrg qs)) lc (hp.set c (cuR t r'))) :
  OpCall C (.ref 828) [.ref r, .int b] k x lc (hp.set c (cuR t rest)) := by
 refine Tri.outD (OpCall.fn 9 (fn_828 _) fl_828 rfl (ds := []) (fun _ => rfl) (by walk_at "o") fun C' hC => ?_)
 have hrm := hC.rm
 have hx := fun e => (hx e).out
 generalize hxe : (fun hp2 => Done (∃ hp', HP.le hp' hp2 ∧ x hp')) = x' at *
 repeat walk1
 refine c_skip hs (by walk_at "o") (L "^") (by decide) (by walk_at "o") ?_
 rw [show (L "^").length = 1 from rfl, ht]
 have hs1 : (if tu = true then rest.drop 1 else rest) <:+ t := by split; exact sfx_dr hs 1; exact hs
 have hl1 : (if tu = true then rest.drop 1 else rest).length ≤ rest.length := by split <;> simp
 generalize (if tu = true then rest.drop 1 else rest) = rest1 at *
 repeat walk1
 refine OpNewList.mk (by simp) fun q hq => ?_
 obtain ⟨hq, hqc⟩ := HP.set_none hq
 rw [HP.set_comm (fun z => hqc z.symm)]
 have hrq : r ≠ q := HP.ne_of hq hr
 repeat walk1
 let I9 : Nat → Loc → HP → Prop := fun n lc' hp' => Done (∃ first acc r2, r2 <:+ rest1 ∧ r2.length < n ∧ acc.length + 4 * r2.length ≤ 4 * rest1.length ∧ clsP n first acc r2 = clsP (rest.length + 1) true [] rest1 ∧ hp' = (hp.set q (.list (acc.map prV))).set c (cuR t r2) ∧ lc'.lookup (S "is_first") = some (.bool first) ∧ lc'.lookup (S "pairs") = some (.ref q) ∧ lc'.lookup (S "self") = some (.ref r) ∧ lc'.lookup (S "begun") = some (.int b) ∧ lc'.lookup (S "is_turned") = some (.bool tu))
 refine ⟨⟨I9, rest.length + 1, ⟨true, [], rest1, List.suffix_refl _, by exact oe3 hl1, by simp, rfl, rfl, by rfl, by rfl, by rfl, by rfl, by rfl⟩, ?_⟩⟩
 rintro n lc' hp' ⟨first, acc, r2, h1, h2, h3, e, rfl, v1, v2, v3, v4, v5⟩
 have hs2 : r2 <:+ t := h1.trans hs1
 have l1 := sfx_le h1
 have l2 := sfx_le hs1
 obtain ⟨n, rfl⟩ : ∃ m, n = m + 1 := ⟨n - 1, by exact on3 h2⟩
 have hr1 : (hp.set q (.list (acc.map prV))) r = some (rdr c) := HP.get_ne hrq hr
 have hx1 := fun e => (hx e).push (o := .list (acc.map prV)) hq hqc
 by_cases hex : (!first && r2.take 1 == L "]") = true
 ·have e9 : clsP (n + 1) first acc r2 = some (acc, r2.drop 1) := if_pos hex
  rw [e9] at e
  obtain ⟨hlen, h⟩ := h _ _ e.symm
  obtain ⟨f1, f2⟩ := Bool.and_eq_true_iff.mp hex
  have f1 : first = false := by simpa using f1
  subst f1
  have f3 : (r2.take 1 != L "]") = false := by rw [bne, f2]; rfl
  have f4 : (false || (r2.take 1 != L "]" || false)) = false := by rw [f3]; rfl
  repeat walk1
  refine OpCall.frz1 (HP.get_ne hqc (HP.set_get ..)) ?_
  refine c_made acc (.inl rfl) hlen (by walk_at "o") fun qs g1 g2 => ?_
  have h := h qs g1 g2
  have hlm : (mrg qs).length ≤ 1000 := by
   have := mrg_len qs qs.length
   rw [List.take_length] at this
   have h5 := g1.length_eq
   have h6 := keptP_len acc
   have h7 : (mrg qs).length ≤ qs.length := this
   exact ok7 h5 h7 h6 hlen
  have fin : ∀ (sp : List (Int × Int)) (lc' : Loc), sp.length ≤ 1000 → k (ndV sp) lc (hp.set c (cuR t (r2.drop 1))) → OpCall C' (.ref 718) [csV sp] (fun v lc_1 hp_1 => Done (∃ hp', HP.le hp' hp_1 ∧ k v lc hp')) x' lc' (((hp.set q (.list (acc.map prV))).set c (cuR t (r2.drop 1))).del q) := fun sp lc' hsp hk =>
   c_chars_node sp hsp (by walk_at "o") ⟨⟨_, le_q hq hqc, hk⟩⟩
  cases tu with
  | false =>
   repeat walk1
   exact fin _ _ hlm h
  | true =>
   repeat walk1
   refine c_complement _ hlm (by walk_at "o") ?_
   repeat walk1
   refine fin _ _ ?_ h
   unfold cmpl
   have := cmp_len (mrg qs) (mrg qs).length
   rw [List.take_length] at this
   have h5 := g1.length_eq
   have h6 := keptP_len acc
   have h7 := mrg_len qs qs.length
   rw [List.take_length] at h7
   have h7 : (mrg qs).length ≤ qs.length := h7
   split
   ·rw [List.length_append]; simp only [List.length_cons, List.length_nil]; exact of7 this h5 h7 h6 hlen
   ·exact oa9 this hlm
 ·have hex' : (first || (r2.take 1 != L "]" || false)) = true := by
   cases first with
   | true => rfl
   | false => simp only [Bool.not_false, Bool.true_and] at hex; simp only [Bool.false_or, Bool.or_false, bne]; simpa using hex
  rw [clsP_go hex] at e
  repeat' walk1
  ·rename_i g1
   rw [if_pos g1] at e
   exact c_failed hr1 hn (by walk_at "o") _ _ (by walk_at "o") fun e3 od hp2 h1 h2 => ⟨⟨e3, od, rfl, h1, hx1 e.symm _ _ h2⟩⟩
  ·rename_i g1 g2
   have g2 : (r2.take 2 == L "[:") = true := g2
   rw [if_neg g1, if_pos g2] at e
   obtain ⟨r3, rfl⟩ : ∃ r3, r2 = 91 :: 58 :: r3 := by
    match r2, g2 with
    | [], g2 => cases g2
    | [a], g2 => simp [L] at g2
    | a :: b :: r3, g2 =>
     have : a = 91 ∧ b = 58 := by simpa [L] using g2
     exact ⟨r3, by rw [this.1, this.2]⟩
   refine c_named hr1 hn hs2 (by walk_at "o") (by walk_at "o") (fun e3 => hx1 (by rw [← e, show (91 :: 58 :: r3).drop 2 = r3 from rfl, e3])) fun sp r' e3 => ?_
   obtain ⟨s3, l3⟩ := nmdP_sfx e3
   rw [show (91 :: 58 :: r3).drop 2 = r3 from rfl, e3] at e
   dsimp only at e
   repeat walk1
   let I9 : Nat → Loc → HP → Prop := fun i lc' hp' => Done (hp' = (hp.set q (.list ((acc ++ sp.take i).map prV))).set c (cuR t r') ∧ lc'.lookup (S "is_first") = some (.bool false) ∧ lc'.lookup (S "pairs") = some (.ref q) ∧ lc'.lookup (S "self") = some (.ref r) ∧ lc'.lookup (S "begun") = some (.int b) ∧ lc'.lookup (S "is_turned") = some (.bool tu))
   refine ⟨⟨sp.map prV, I9, .inr (.inl rfl), ⟨by simp, by walk_at "lk", by walk_at "lk", by walk_at "lk", by walk_at "lk", by walk_at "lk"⟩, ?_, ?_⟩⟩
   ·rintro i y lc2 hp2 hy ⟨rfl, w1, w2, w3, w4, w5⟩
    obtain ⟨p, hp1, rfl⟩ := getMap hy
    have hi : i < sp.length := (List.getElem?_eq_some_iff.mp hp1).1
    have e4 : acc ++ sp.take (i + 1) = (acc ++ sp.take i) ++ [p] := by rw [List.take_add_one, hp1, List.append_assoc]; rfl
    simp only [List.length_cons] at h3 l1
    repeat walk1
    exact ⟨by rw [HP.set_comm (fun z => hqc z.symm), HP.set_set, e4]; simp only [List.map_append, List.map_cons, List.map_nil], by walk_at "lk", by walk_at "lk", by walk_at "lk", by walk_at "lk", by walk_at "lk"⟩
   ·rintro lc2 hp2 ⟨rfl, w1, w2, w3, w4, w5⟩
    rw [List.length_map, List.take_length]
    have := s3.length_le
    simp only [List.length_cons] at h3 l1 h2
    repeat walk1
    exact ⟨n, by exact on2, ⟨false, acc ++ sp, r', (s3.trans ((List.suffix_cons 58 r3).trans (List.suffix_cons 91 _))).trans h1, by exact oh8 h2 this, by rw [List.length_append]; exact ol6 h3 l3 this, e, rfl, w1, w2, w3, w4, w5⟩⟩
  ·rename_i g1 g2
   have g2 : ¬ (r2.take 2 == L "[:") = true := g2
   rw [if_neg g1, if_neg g2] at e
   match r2, g1, hs2, h1, h2, h3, e, l1 with
   | [], g1, _, _, _, _, _, _ => exact absurd rfl g1
   | a :: ra, g1, hs2, h1, h2, h3, e, l1 =>
    refine c_span' hr1 hn hs2 (by walk_at "o") (by walk_at "o") (fun e3 => hx1 (by rw [← e, e3])) fun lo hi r' e3 => ?_
    obtain ⟨s3, l3⟩ := spnP_sfx e3
    rw [e3] at e
    dsimp only at e
    simp only [List.length_cons] at h3 l1 h2 l3
    repeat walk1
    refine ⟨n, by exact on2, ⟨false, acc ++ [(lo, hi)], r', s3.trans h1, by exact or8 h2 l3, by rw [List.length_append]; simp only [List.length_cons, List.length_nil]; exact oi7 l3 h3, e, by rw [HP.set_comm (fun z => hqc z.symm), HP.set_set, List.map_append]; rfl, by walk_at "lk", by walk_at "lk", by walk_at "lk", by walk_at "lk", by walk_at "lk"⟩⟩
end
end
example : True ∧ True := by first | (walk1; done) | exact ⟨trivial, trivial⟩
section
section
variable {C : Fm} {x : HP → Prop} {lc : Loc} {hp : HP} {k : V → Loc → HP → Prop} {c : Addr} {t rest : List Nat}
theorem c_skipN (hs : rest <:+ t) (hz : t.length ≤ 1000000) (w : List Nat) (hw : w.length ≤ 1000) (hrm : 2 ≤ C.rm) (h0 : (rest.take w.length == w) = false) (h : k (.bool false) lc (hp.set c (cuR t rest))) : OpCall C (.ref 148) [.ref c, .str w] k x lc (hp.set c (cuR t rest)) := by
 refine c_skip hs hz w hw hrm ?_
 rw [h0]
 exact h
theorem c_skipY (hs : rest <:+ t) (hz : t.length ≤ 1000000) (w : List Nat) (hw : w.length ≤ 1000) (hrm : 2 ≤ C.rm) (h0 : (rest.take w.length == w) = true) (h : k (.bool true) lc (hp.set c (cuR t (rest.drop w.length)))) : OpCall C (.ref 148) [.ref c, .str w] k x lc (hp.set c (cuR t rest)) := by
 refine c_skip hs hz w hw hrm ?_
 rw [h0]
 exact h
end
example : True := by
 k_with "c10_0" => first | ((with_reducible show OpCall _ (.ref 127) [.ref _] _ _ _ _); with_reducible refine c_peekC (by assumption) (by walk_at "o") (by walk_at "o") ?_) | ((with_reducible show OpCall _ (.ref 127) [.ref _] _ _ _ _); with_reducible refine c_peekN (by assumption) (by walk_at "o") (by walk_at "o") ?_) | ((with_reducible show OpCall _ (.ref 141) _ _ _ _ _); with_reducible refine c_takeC (by assumption) (by walk_at "o") (by walk_at "o") ?_) | ((with_reducible show OpCall _ (.ref 127) [.ref _] _ _ _ _); refine c_peek0 (by assumption) (by walk_at "o") (by walk_at "o") ?_) | ((with_reducible show OpCall _ (.ref 119) _ _ _ _ _); refine c_is_done (by assumption) (by walk_at "o") (by walk_at "o") ?_) | ((with_reducible show OpCall _ (.ref 141) _ _ _ _ _); refine c_take (by assumption) (by walk_at "o") (by walk_at "o") ?_) | ((with_reducible show OpCall _ (.ref 134) _ _ _ _ _); refine c_starts (by assumption) (by walk_at "o") _ (by decide) (by walk_at "o") ?_) | ((with_reducible show OpCall _ (.ref 148) _ _ _ _ _); refine c_skipN (by assumption) (by walk_at "o") _ (by decide) (by walk_at "o") (by assumption) ?_) | ((with_reducible show OpCall _ (.ref 148) _ _ _ _ _); refine c_skipY (by assumption) (by walk_at "o") _ (by decide) (by walk_at "o") (by assumption) ?_) | ((with_reducible show OpCall _ (.ref 317) _ _ _ _ _); refine c_dot (by walk_at "o") ?_) | ((with_reducible show OpCall _ (.ref 543) _ _ _ _ _); refine mk_Chars _ (by walk_at "o") ?_) | ((with_reducible show OpCall _ (.ref 439) _ _ _ _ _); refine c_key _ (by walk_at "o") ?_)
 trivial
local macro_rules | `(tactic| walk_at "OpCall ref") => `(tactic| k_extra "c10_0")
section
variable {C : Fm} {x : HP → Prop} {lc : Loc} {hp : HP} {k : V → Loc → HP → Prop} {c r : Addr} {t rest : List Nat}
noncomputable def Plain (a : Nat) : Prop := a ≠ 40 ∧ a ≠ 91 ∧ a ≠ 34 ∧ a ≠ 123 ∧ a ≠ 46
theorem c_single_dot {r1 : List Nat} (hr : hp r = some (rdr c)) (hn : r ≠ c) (hs : 46 :: r1 <:+ t) (hz : t.length ≤ 10000) (hrm : 11 ≤ C.rm) (h : k (chV [(0, 9), (11, 127)]) lc (hp.set c (cuR t r1))) : OpCall C (.ref 802) [.ref r] k x lc (hp.set c (cuR t (46 :: r1))) := by
 refine OpCall.fn 10 (fn_802 _) fl_802 rfl (ds := []) (fun _ => rfl) (by walk_at "o") fun C' hC => ?_
 have hrm := hC.rm
 repeat walk1
 exact h
theorem c_single_cls {r1 : List Nat} (hr : hp r = some (rdr c)) (hn : r ≠ c) (hs : 91 :: r1 <:+ t) (hz : t.length ≤ 10000) (hrm : 11 ≤ C.rm) (tu : Bool) (ht : (r1.take 1 == L "^") = tu) (hx : clsP (r1.length + 1) true [] (if tu = true then r1.drop 1 else r1) = none → XOk x hp c t)
  (h : ∀ ps r', clsP (r1.length + 1) true [] (if tu = true then r1.drop 1 else r1) = some (ps, r') → ps.length < 64 ∧ ∀ qs : List (Int × Int), qs.Perm (keptP ps) → qs.Pairwise (fun a b => ltP b a = false) → k (ndV (if tu = true then cmpl (mrg qs) else mrg qs)) lc (hp.set c (cuR t r'))) :
  OpCall C (.ref 802) [.ref r] k x lc (hp.set c (cuR t (91 :: r1))) := by
 refine OpCall.fn 10 (fn_802 _) fl_802 rfl (ds := []) (fun _ => rfl) (by walk_at "o") fun C' hC => ?_
 have hrm := hC.rm
 repeat walk1
 exact c_sign_class hr hn (sfx_tl hs) hz _ (by walk_at "o") tu ht hx h
theorem c_single_sign {a : Nat} {r1 : List Nat} (hr : hp r = some (rdr c)) (hn : r ≠ c) (hs : a :: r1 <:+ t) (hz : t.length ≤ 10000) (hrm : 11 ≤ C.rm) (hx : (a ∈ L "*+?]}^$/ \t\n" ∨ codeP a r1 = none) → XOk x hp c t) (hp1 : Plain a)
  (h : a ∉ L "*+?]}^$/ \t\n" → ∀ n r', codeP a r1 = some (n, r') → k (chV [((n : Int), (n : Int))]) lc (hp.set c (cuR t r'))) : OpCall C (.ref 802) [.ref r] k x lc (hp.set c (cuR t (a :: r1))) := by
 refine OpCall.fn 10 (fn_802 _) fl_802 rfl (ds := []) (fun _ => rfl) (by walk_at "o") fun C' hC => ?_
 have hrm := hC.rm
 obtain ⟨p1, p2, p3, p4, p5⟩ := hp1
 have q1 : ([a] == L "(") = false := by simpa [L] using p1
 have q2 : ([a] == L "[") = false := by simpa [L] using p2
 have q3 : ([a] == L "\"") = false := by simpa [L] using p3
 have q4 : ([a] == L "{") = false := by simpa [L] using p4
 have q5 : ([a] == L ".") = false := by simpa [L] using p5
 repeat' walk1
 ·rename_i q
  have q := of_decide_eq_true q
  exact c_failed hr hn (by walk_at "o") _ _ (by walk_at "o") fun e od hp2 h1 h2 => ⟨⟨e, od, rfl, h1, hx (.inl q) _ _ h2⟩⟩
 ·rename_i q
  have q := of_decide_eq_false (by simpa only [Bool.not_eq_true] using q)
  refine c_code_of hr hn (sfx_tl hs) (by walk_at "o") a _ (by walk_at "o") (fun e => hx (.inr e)) fun n r' e => ?_
  have hb := (codeP_sfx e).2
  repeat walk1
  refine c_span _ _ (by walk_at "o") fun qs g1 g2 => ?_
  have e1 : keptP [((n : Int), (n : Int))] = [((n : Int), (n : Int))] := by
   unfold keptP
   rw [List.filterMap_cons, List.filterMap_nil]
   dsimp only
   rw [show max (n : Int) 0 = n by exact op4, show min (n : Int) 127 = n by exact oc7 hb, if_pos (Int.le_refl _)]
  rw [e1] at g1
  have e2 : qs = [((n : Int), (n : Int))] := List.perm_singleton.mp g1
  subst e2
  repeat walk1
  exact h q n r' e
theorem c_is_stop (hr : hp r = some (rdr c)) (hn : r ≠ c) (hs : rest <:+ t) (hz : t.length ≤ 10000) (hrm : 2 ≤ C.rm) (st : Bool) (hst : (rest.take 1 == L "" || (rest.take 1 == L "|" || (rest.take 1 == L ")" || false))) = st) (h : k (.bool st) lc (hp.set c (cuR t rest))) : OpCall C (.ref 760) [.ref r] k x lc (hp.set c (cuR t rest)) := by
 refine OpCall.fn 1 (fn_760 _) fl_760 rfl (ds := []) (fun _ => rfl) (by walk_at "o") fun C' hC => ?_
 have hrm := hC.rm
 subst hst
 repeat' walk1
 ·rename_i q
  rw [q] at h; exact h
 ·rename_i q
  have q : (rest.take 1 == L "" || (rest.take 1 == L "|" || (rest.take 1 == L ")" || false))) = false := by simpa only [Bool.not_eq_true] using q
  rw [q] at h; exact h
theorem c_looped (hr : hp r = some (rdr c)) (hn : r ≠ c) (hs : rest <:+ t) (hz : t.length ≤ 10000) (v : V) (hrm : 3 ≤ C.rm) (h1 : ∀ a ∈ rest.take 1, a ≠ 42 ∧ a ≠ 43 ∧ a ≠ 63 ∧ a ≠ 123) (h : k v lc (hp.set c (cuR t rest))) : OpCall C (.ref 781) [.ref r, v] k x lc (hp.set c (cuR t rest)) := by
 refine OpCall.fn 2 (fn_781 _) fl_781 rfl (ds := []) (fun _ => rfl) (by walk_at "o") fun C' hC => ?_
 have hrm := hC.rm
 have g : ∀ (w : String) (a : Nat), L w = [a] → (a = 42 ∨ a = 43 ∨ a = 63 ∨ a = 123) → (rest.take 1 == L w) = false := fun w a e q => by
  rw [e, beq_eq_false_iff_ne]
  intro z
  have := h1 a (by rw [z]; exact .head _)
  exact of3 this q
 have g1 : (rest.take (L "*").length == L "*") = false := g "*" 42 rfl (by walk_at "o")
 have g2 : (rest.take (L "+").length == L "+") = false := g "+" 43 rfl (by walk_at "o")
 have g3 : (rest.take (L "?").length == L "?") = false := g "?" 63 rfl (by walk_at "o")
 have g4 : (rest.take 1 == L "{") = false := g "{" 123 rfl (by walk_at "o")
 repeat walk1
 let I9 : Nat → Loc → HP → Prop := fun i lc' hp' => Done (i = 0 ∧ lc'.lookup (S "self") = some (.ref r) ∧ lc'.lookup (S "node") = some v ∧ hp' = hp.set c (cuR t rest))
 refine ⟨⟨_, I9, .inr (.inr ⟨0, 20 + 1, rfl, rfl, small_range _ _ (by walk_at "o") (by walk_at "o") (by walk_at "o") (by walk_at "o")⟩), ⟨rfl, by rfl, by rfl, rfl⟩, ?_, ?_⟩⟩
 ·rintro i y lc' hp' hy ⟨rfl, w1, w2, rfl⟩
  repeat walk1
  exact h
 ·rintro lc' hp' ⟨w0, _⟩
  cases w0
noncomputable def Sgl (t rest : List Nat) (P : V → List Nat → Prop) (R : Prop) : Prop := ∀ (C : Fm) (k : V → Loc → HP → Prop) (x : HP → Prop) (lc : Loc) (hp : HP) (r c : Addr), 11 ≤ C.rm → hp r = some (rdr c) → r ≠ c → (R → XOk x hp c t) → (∀ v r', P v r' → k v lc (hp.set c (cuR t r'))) → OpCall C (.ref 802) [.ref r] k x lc (hp.set c (cuR t rest))
theorem c_cat_all (v : V) (hrm : 1 ≤ C.rm) (h : k v lc hp) : OpCall C (.ref 711) [.lst [v]] k x lc hp := by
 refine OpCall.fn 0 (fn_711 _) fl_711 rfl (ds := []) (fun _ => rfl) (by walk_at "o") fun C' hC => ?_
 repeat walk1
 refine OpSub.lst IsLst.f (by simp) (y := v) rfl ?_
 repeat walk1
 refine OpSlice.lst IsLst.f (nn_some (by walk_at "o")) nn_none (by simp) ?_
 let I9 : Nat → Loc → HP → Prop := fun i lc' hp' => Done (i = 0 ∧ lc'.lookup (S "node") = some v ∧ hp' = hp)
 refine ⟨⟨[], I9, .inl rfl, ⟨rfl, by rfl, rfl⟩, ?_, ?_⟩⟩
 ·intro i y lc' hp' hy
  simp at hy
 ·rintro lc' hp' ⟨_, w, rfl⟩
  repeat walk1
  exact h
noncomputable def stopF (rest : List Nat) : Bool := (rest.take 1 == L "" || (rest.take 1 == L "|" || (rest.take 1 == L ")" || false)))
theorem c_branch1 {P : V → List Nat → Prop} {R : Prop} (hS : Sgl t rest P R) (hr : hp r = some (rdr c)) (hn : r ≠ c) (hs : rest <:+ t) (hz : t.length ≤ 10000) (hrm : 12 ≤ C.rm) (hx : R → XOk x hp c t) (h0 : stopF rest = false)
  (hP : ∀ v r', P v r' → r' <:+ t ∧ stopF r' = true) (h : ∀ v r', P v r' → k v lc (hp.set c (cuR t r'))) : OpCall C (.ref 774) [.ref r] k x lc (hp.set c (cuR t rest)) := by
 refine Tri.outD (OpCall.fn 11 (fn_774 _) fl_774 rfl (ds := []) (fun _ => rfl) (by walk_at "o") fun C' hC => ?_)
 have hrm := hC.rm
 have hx := fun e => (hx e).out
 generalize hxe : (fun hp2 => Done (∃ hp', HP.le hp' hp2 ∧ x hp')) = x' at *
 repeat walk1
 refine OpNewList.mk (by simp) fun q hq => ?_
 obtain ⟨hq, hqc⟩ := HP.set_none hq
 rw [HP.set_comm (fun z => hqc z.symm)]
 have hrq : r ≠ q := HP.ne_of hq hr
 repeat walk1
 let I9 : Nat → Loc → HP → Prop := fun n lc' hp' => Done (lc'.lookup (S "row") = some (.ref q) ∧ lc'.lookup (S "self") = some (.ref r) ∧ ((n = 1 ∧ hp' = (hp.set q (.list [])).set c (cuR t rest)) ∨ (n = 0 ∧ ∃ v r', P v r' ∧ hp' = (hp.set q (.list [v])).set c (cuR t r'))))
 refine ⟨⟨I9, 1, ⟨by rfl, by rfl, .inl ⟨rfl, rfl⟩⟩, ?_⟩⟩
 rintro n lc' hp' ⟨w1, w2, ⟨rfl, rfl⟩ | ⟨rfl, v, r', hPv, rfl⟩⟩
 ·have hr1 : (hp.set q (.list [])) r = some (rdr c) := HP.get_ne hrq hr
  have hx1 : R → XOk x' (hp.set q (.list [])) c t := fun e => (hx e).push hq hqc
  repeat walk1
  refine c_is_stop hr1 hn hs hz (by walk_at "o") false h0 ?_
  repeat walk1
  refine hS _ _ _ _ _ _ _ (by walk_at "o") hr1 hn hx1 fun v r' hv => ?_
  obtain ⟨p1, p2⟩ := hP v r' hv
  repeat walk1
  refine c_looped hr1 hn p1 hz v (by walk_at "o") ?_ ?_
  ·intro a ha
   cases r' with
   | nil => simp at ha
   | cons b r'' =>
    obtain rfl : a = b := by simpa using ha
    unfold stopF at p2
    have : a = 124 ∨ a = 41 := by simpa [L] using p2
    exact ou8 this
  ·repeat walk1
   exact ⟨0, by omega, ⟨w1, w2, .inr ⟨rfl, v, r', hv, by rw [HP.set_comm (fun z => hqc z.symm), HP.set_set]; rfl⟩⟩⟩
 ·have hr1 : (hp.set q (.list [v])) r = some (rdr c) := HP.get_ne hrq hr
  obtain ⟨p1, p2⟩ := hP v r' hPv
  repeat walk1
  refine c_is_stop hr1 hn p1 hz (by walk_at "o") true p2 ?_
  repeat walk1
  refine OpCall.frz1 (HP.get_ne hqc (HP.set_get ..)) ?_
  refine c_cat_all v (by walk_at "o") ⟨⟨_, le_q hq hqc, h v r' hPv⟩⟩
end
end
example : True ∧ True := by first | (walk1; done) | exact ⟨trivial, trivial⟩
section
example : True := by
 k_with "c11_0" => first | ((with_reducible show OpCall _ (.ref 127) [.ref _] _ _ _ _); with_reducible refine c_peekC (by assumption) (by walk_at "o") (by walk_at "o") ?_) | ((with_reducible show OpCall _ (.ref 127) [.ref _] _ _ _ _); with_reducible refine c_peekN (by assumption) (by walk_at "o") (by walk_at "o") ?_) | ((with_reducible show OpCall _ (.ref 141) _ _ _ _ _); with_reducible refine c_takeC (by assumption) (by walk_at "o") (by walk_at "o") ?_) | ((with_reducible show OpCall _ (.ref 127) [.ref _] _ _ _ _); refine c_peek0 (by assumption) (by walk_at "o") (by walk_at "o") ?_) | ((with_reducible show OpCall _ (.ref 119) _ _ _ _ _); refine c_is_done (by assumption) (by walk_at "o") (by walk_at "o") ?_) | ((with_reducible show OpCall _ (.ref 141) _ _ _ _ _); refine c_take (by assumption) (by walk_at "o") (by walk_at "o") ?_) | ((with_reducible show OpCall _ (.ref 134) _ _ _ _ _); refine c_starts (by assumption) (by walk_at "o") _ (by decide) (by walk_at "o") ?_) | ((with_reducible show OpCall _ (.ref 148) _ _ _ _ _); refine c_skipN (by assumption) (by walk_at "o") _ (by decide) (by walk_at "o") (by assumption) ?_) | ((with_reducible show OpCall _ (.ref 148) _ _ _ _ _); refine c_skipY (by assumption) (by walk_at "o") _ (by decide) (by walk_at "o") (by assumption) ?_) | ((with_reducible show OpCall _ (.ref 317) _ _ _ _ _); refine c_dot (by walk_at "o") ?_) | ((with_reducible show OpCall _ (.ref 543) _ _ _ _ _); refine mk_Chars _ (by walk_at "o") ?_) | ((with_reducible show OpCall _ (.ref 439) _ _ _ _ _); refine c_key _ (by walk_at "o") ?_)
 trivial
local macro_rules | `(tactic| walk_at "OpCall ref") => `(tactic| k_extra "c11_0")
section
variable {C : Fm} {x : HP → Prop} {lc : Loc} {hp : HP} {k : V → Loc → HP → Prop} {c r : Addr} {t rest : List Nat}
theorem c_branch2 {a : Nat} {T : List Nat} (h1 : Sgl t (a :: T) (fun v r' => r' = T) False) (h2 : Sgl t T (fun _ _ => False) True) (hr : hp r = some (rdr c)) (hn : r ≠ c) (hs : a :: T <:+ t) (hz : t.length ≤ 10000) (hrm : 12 ≤ C.rm) (hx : XOk x hp c t) (h0 : stopF (a :: T) = false) (h3 : stopF T = false)
  (h4 : ∀ a ∈ T.take 1, a ≠ 42 ∧ a ≠ 43 ∧ a ≠ 63 ∧ a ≠ 123) : OpCall C (.ref 774) [.ref r] k x lc (hp.set c (cuR t (a :: T))) := by
 refine OpCall.fn 11 (fn_774 _) fl_774 rfl (ds := []) (fun _ => rfl) (by walk_at "o") fun C' hC => ?_
 have hrm := hC.rm
 repeat walk1
 refine OpNewList.mk (by simp) fun q hq => ?_
 obtain ⟨hq, hqc⟩ := HP.set_none hq
 rw [HP.set_comm (fun z => hqc z.symm)]
 have hrq : r ≠ q := HP.ne_of hq hr
 repeat walk1
 let I9 : Nat → Loc → HP → Prop := fun n lc' hp' => Done (lc'.lookup (S "row") = some (.ref q) ∧ lc'.lookup (S "self") = some (.ref r) ∧ ((n = 1 ∧ hp' = (hp.set q (.list [])).set c (cuR t (a :: T))) ∨ (n = 0 ∧ ∃ v, hp' = (hp.set q (.list [v])).set c (cuR t T))))
 refine ⟨⟨I9, 1, ⟨by rfl, by rfl, .inl ⟨rfl, rfl⟩⟩, ?_⟩⟩
 rintro n lc' hp' ⟨w1, w2, ⟨rfl, rfl⟩ | ⟨rfl, v, rfl⟩⟩
 ·have hr1 : (hp.set q (.list [])) r = some (rdr c) := HP.get_ne hrq hr
  have hx1 : XOk x (hp.set q (.list [])) c t := hx.push hq hqc
  repeat walk1
  refine c_is_stop hr1 hn hs hz (by walk_at "o") false h0 ?_
  repeat walk1
  refine h1 _ _ _ _ _ _ _ (by walk_at "o") hr1 hn (fun z => z.elim) fun v r' hv => ?_
  subst hv
  repeat walk1
  refine c_looped hr1 hn (sfx_tl hs) hz v (by walk_at "o") h4 ?_
  repeat walk1
  exact ⟨0, by omega, ⟨w1, w2, .inr ⟨rfl, v, by rw [HP.set_comm (fun z => hqc z.symm), HP.set_set]; rfl⟩⟩⟩
 ·have hr1 : (hp.set q (.list [v])) r = some (rdr c) := HP.get_ne hrq hr
  have hx1 : XOk x (hp.set q (.list [v])) c t := hx.push hq hqc
  repeat walk1
  refine c_is_stop hr1 hn (sfx_tl hs) hz (by walk_at "o") false h3 ?_
  repeat walk1
  exact h2 _ _ _ _ _ _ _ (by walk_at "o") hr1 hn (fun _ => hx1) fun v r' hv => hv.elim
theorem c_choice1 {P : V → List Nat → Prop} {R : Prop} (hS : Sgl t rest P R) (hr : hp r = some (rdr c)) (hn : r ≠ c) (hs : rest <:+ t) (hz : t.length ≤ 10000) (hrm : 13 ≤ C.rm) (hx : R → XOk x hp c t) (h0 : stopF rest = false)
  (hP : ∀ v r', P v r' → r' = []) (h : ∀ v, P v [] → k v lc (hp.set c (cuR t []))) : OpCall C (.ref 767) [.ref r] k x lc (hp.set c (cuR t rest)) := by
 refine OpCall.fn 12 (fn_767 _) fl_767 rfl (ds := []) (fun _ => rfl) (by walk_at "o") fun C' hC => ?_
 have hrm := hC.rm
 have hse : [] <:+ t := List.nil_suffix
 repeat walk1
 refine c_branch1 hS hr hn hs hz (by walk_at "o") hx h0 (fun v r' hv => by rw [hP v r' hv]; exact ⟨List.nil_suffix, rfl⟩) fun v r' hv => ?_
 have e := hP v r' hv
 subst e
 repeat walk1
 let I9 : Nat → Loc → HP → Prop := fun n lc' hp' => Done (lc'.lookup (S "self") = some (.ref r) ∧ lc'.lookup (S "node") = some v ∧ hp' = hp.set c (cuR t []))
 refine ⟨⟨I9, 0, ⟨by rfl, by rfl, rfl⟩, ?_⟩⟩
 rintro n lc' hp' ⟨w1, w2, rfl⟩
 have g1 : (([] : List Nat).take (L "|").length == L "|") = false := rfl
 repeat walk1
 exact h v hv
theorem c_choice2 {a b : Nat} {T : List Nat} (h1 : Sgl t (a :: 124 :: b :: T) (fun v r' => r' = 124 :: b :: T) False) (h2 : Sgl t (b :: T) (fun v r' => r' = T) False) (h3 : Sgl t T (fun _ _ => False) True) (hr : hp r = some (rdr c)) (hn : r ≠ c) (hs : a :: 124 :: b :: T <:+ t) (hz : t.length ≤ 10000) (hrm : 13 ≤ C.rm) (hx : XOk x hp c t)
  (s1 : stopF (a :: 124 :: b :: T) = false) (s2 : stopF (b :: T) = false) (s3 : stopF T = false) (h4 : ∀ a ∈ T.take 1, a ≠ 42 ∧ a ≠ 43 ∧ a ≠ 63 ∧ a ≠ 123) : OpCall C (.ref 767) [.ref r] k x lc (hp.set c (cuR t (a :: 124 :: b :: T))) := by
 refine OpCall.fn 12 (fn_767 _) fl_767 rfl (ds := []) (fun _ => rfl) (by walk_at "o") fun C' hC => ?_
 have hrm := hC.rm
 repeat walk1
 refine c_branch1 h1 hr hn hs hz (by walk_at "o") (fun z => z.elim) s1 (fun v r' hv => by rw [hv]; exact ⟨sfx_tl hs, rfl⟩) fun v r' hv => ?_
 subst hv
 have hs2 := sfx_tl hs
 have g1 : ((124 :: b :: T).take (L "|").length == L "|") = true := rfl
 repeat walk1
 let I9 : Nat → Loc → HP → Prop := fun n lc' hp' => Done (lc'.lookup (S "self") = some (.ref r) ∧ lc'.lookup (S "node") = some v ∧ hp' = hp.set c (cuR t (124 :: b :: T)))
 refine ⟨⟨I9, 0, ⟨by rfl, by rfl, rfl⟩, ?_⟩⟩
 rintro n lc' hp' ⟨w1, w2, rfl⟩
 repeat walk1
 exact c_branch2 h2 h3 hr hn (sfx_tl hs2) hz (by walk_at "o") hx s2 s3 h4
theorem mk_Cursor (t : List Nat) (i : Int) (hrm : 2 ≤ C.rm) (h : ∀ c, hp c = none → k (.ref c) lc (hp.set c (cur t i))) : OpCall C (.ref 222) [.str t, .int i] k x lc hp := by
 have n1 : S "text" ≠ S "at" := by decide
 refine OpCall.clsMD 0 (mk_222 _) (fn_112 _) fl_112 rfl (ds := []) (fun _ => rfl) (by walk_at "o") (fun c hc C' hC => ?_)
 repeat walk1
 refine OpSetAttr.own (HP.set_get ..) (se_222_text _) (by simp) ?_
 repeat walk1
 refine OpSetAttr.own (HP.set_get ..) (se_222_at _) (by simp [putF]) ?_
 repeat walk1
 refine ⟨⟨rfl, ?_⟩⟩
 have := h c hc
 simp only [HP.set_set, putF, if_neg n1]
 exact this
theorem mk_Reader (t : List Nat) (hrm : 4 ≤ C.rm) (h : ∀ c r, hp c = none → hp r = none → r ≠ c → k (.ref r) lc ((hp.set r (rdr c)).set c (cuR t t))) : OpCall C (.ref 852) [.str t, .int 0, .none, .bool false] k x lc hp := by
 have n1 : S "cursor" ≠ S "definitions" := by decide
 have n2 : S "cursor" ≠ S "is_pattern" := by decide
 have n3 : S "cursor" ≠ S "depth" := by decide
 have n4 : S "definitions" ≠ S "is_pattern" := by decide
 have n5 : S "definitions" ≠ S "depth" := by decide
 have n6 : S "is_pattern" ≠ S "depth" := by decide
 refine OpCall.clsMD 2 (mk_852 _) (fn_739 _) fl_739 rfl (ds := []) (fun _ => rfl) (by walk_at "o") (fun r hr C' hC => ?_)
 have hrm := hC.rm
 repeat walk1
 refine mk_Cursor t 0 (by walk_at "o") fun c hc => ?_
 obtain ⟨hc, hcr⟩ := HP.set_none hc
 repeat walk1
 refine OpSetAttr.own (HP.get_ne (fun z => hcr z.symm) (HP.set_get ..)) (se_852_cursor _) (by simp) ?_
 repeat walk1
 refine OpSetAttr.own (HP.set_get ..) (se_852_definitions _) (by simp [putF]) ?_
 repeat walk1
 refine OpSetAttr.own (HP.set_get ..) (se_852_is_pattern _) (by simp [putF, n1]) ?_
 repeat walk1
 refine OpSetAttr.own (HP.set_get ..) (se_852_depth _) (by simp [putF, n1, n2, n4]) ?_
 repeat walk1
 refine ⟨⟨rfl, ?_⟩⟩
 have := h c r hc hr fun z => hcr z.symm
 unfold cuR at this
 rw [Nat.sub_self] at this
 simp only [HP.set_set, putF, if_neg n1, if_neg n2, if_neg n3, if_neg n4, if_neg n5, if_neg n6]
 rw [HP.set_comm hcr, HP.set_set]
 exact this
theorem XOk.base {hp0 : HP} (l : HP.le hp0 hp) (hc : hp0 c = none) (h : x hp0) : XOk (fun hp2 => Done (∃ hp', HP.le hp' hp2 ∧ x hp')) hp c t := fun rest hp2 l2 => ⟨⟨hp0, HP.le_trans (HP.le_set' hc l) l2, h⟩⟩
theorem c_read1 {P : V → List Nat → Prop} {R : Prop} (t : List Nat) (hS : Sgl t t P R) (hz : t.length ≤ 10000) (hrm : 14 ≤ C.rm) (h0 : stopF t = false) (hP : ∀ v r', P v r' → r' = []) (hx : R → x hp) (h : ∀ v, P v [] → k v lc hp) : OpCall C (.ref 864) [.str t] k x lc hp := by
 refine Tri.outD (OpCall.fn 13 (fn_864d _) fl_864 rfl (ds := [.none]) (fun _ => ⟨_, _, rfl, rfl, rfl⟩) (by walk_at "o") fun C' hC => ?_)
 have hrm := hC.rm
 have hs : t <:+ t := List.suffix_refl _
 have hse : [] <:+ t := List.nil_suffix
 repeat walk1
 refine mk_Reader t (by walk_at "o") fun c r hc hr hrc => ?_
 have hr1 : (hp.set r (rdr c)) r = some (rdr c) := HP.set_get ..
 have l1 : HP.le hp (hp.set r (rdr c)) := HP.le_set' hr (HP.le_refl _)
 repeat walk1
 refine c_choice1 hS hr1 hrc hs hz (by walk_at "o") (fun e => XOk.base l1 hc (hx e)) h0 hP fun v hv => ?_
 repeat walk1
 exact ⟨⟨hp, HP.le_set' hc l1, h v hv⟩⟩
theorem c_read0 (t : List Nat) (hS : Sgl t t (fun _ _ => False) True) (hz : t.length ≤ 10000) (hrm : 14 ≤ C.rm) (h0 : stopF t = false) (hx : x hp) : OpCall C (.ref 864) [.str t] k x lc hp :=
 c_read1 t hS hz hrm h0 (fun _ _ h => h.elim) (fun _ => hx) fun _ h => h.elim
theorem c_read2 {a b : Nat} {T : List Nat} (t : List Nat) (ht : t = a :: 124 :: b :: T) (h1 : Sgl t (a :: 124 :: b :: T) (fun v r' => r' = 124 :: b :: T) False) (h2 : Sgl t (b :: T) (fun v r' => r' = T) False) (h3 : Sgl t T (fun _ _ => False) True) (hz : t.length ≤ 10000) (hrm : 14 ≤ C.rm)
  (s1 : stopF (a :: 124 :: b :: T) = false) (s2 : stopF (b :: T) = false) (s3 : stopF T = false) (h4 : ∀ a ∈ T.take 1, a ≠ 42 ∧ a ≠ 43 ∧ a ≠ 63 ∧ a ≠ 123) (hx : x hp) : OpCall C (.ref 864) [.str t] k x lc hp := by
 refine Tri.outD (OpCall.fn 13 (fn_864d _) fl_864 rfl (ds := [.none]) (fun _ => ⟨_, _, rfl, rfl, rfl⟩) (by walk_at "o") fun C' hC => ?_)
 have hrm := hC.rm
 repeat walk1
 refine mk_Reader t (by walk_at "o") fun c r hc hr hrc => ?_
 have hr1 : (hp.set r (rdr c)) r = some (rdr c) := HP.set_get ..
 have l1 : HP.le hp (hp.set r (rdr c)) := HP.le_set' hr (HP.le_refl _)
 repeat walk1
 rw [← ht] at h1
 subst ht
 exact c_choice2 h1 h2 h3 hr1 hrc (List.suffix_refl _) hz (by walk_at "o") (XOk.base l1 hc hx) s1 s2 s3 h4
theorem c_heard1 {P : V → List Nat → Prop} (t : List Nat) (hS : Sgl t t P False) (hz : t.length ≤ 10000) (hrm : 16 ≤ C.rm) (h0 : stopF t = false) (due : V) (hP : ∀ v r', P v r' → r' = [] ∧ ((v = nvV ∧ due = .tup [.str (L "never")]) ∨ ∃ sp, v = chV sp ∧ due = .tup [.str (L "chars"), prs sp]))
  (h : k due lc hp) : OpCall C (.ref 966) [.str t] k x lc hp := by
 refine OpCall.fn 15 (fn_966 _) fl_966 rfl (ds := []) (fun _ => rfl) (by walk_at "o") fun C' hC => ?_
 have hrm := hC.rm
 repeat walk1
 refine SX.tryR (Callee.top hC) (Callee.sc hC) (by kernel_rfl) (by kernel_rfl) (gl_RegexError _) (ofS_cps _) ?_
 repeat walk1
 refine c_read1 t hS hz (by walk_at "o") h0 (fun v r' hv => (hP v r' hv).1) (fun z => z.elim) fun v hv => ?_
 rcases (hP v [] hv).2 with ⟨rfl, e⟩ | ⟨sp, rfl, e⟩
 ·repeat walk1
  refine c_told_nv (by walk_at "o") ?_
  rw [e] at h
  repeat walk1
  exact h
 ·repeat walk1
  refine c_told_ch sp (by walk_at "o") ?_
  rw [e] at h
  repeat walk1
  exact h
theorem c_heard0 (t : List Nat) (hS : Sgl t t (fun _ _ => False) True) (hz : t.length ≤ 10000) (hrm : 16 ≤ C.rm) (h0 : stopF t = false) (h : k (.str (L "refused")) lc hp) : OpCall C (.ref 966) [.str t] k x lc hp := by
 refine OpCall.fn 15 (fn_966 _) fl_966 rfl (ds := []) (fun _ => rfl) (by walk_at "o") fun C' hC => ?_
 have hrm := hC.rm
 repeat walk1
 refine SX.tryR (Callee.top hC) (Callee.sc hC) (by kernel_rfl) (by kernel_rfl) (gl_RegexError _) (ofS_cps _) ?_
 repeat walk1
 exact c_read0 t hS hz (by walk_at "o") h0 h
theorem c_heard2 {a b : Nat} {T : List Nat} (t : List Nat) (ht : t = a :: 124 :: b :: T) (h1 : Sgl t (a :: 124 :: b :: T) (fun v r' => r' = 124 :: b :: T) False) (h2 : Sgl t (b :: T) (fun v r' => r' = T) False) (h3 : Sgl t T (fun _ _ => False) True) (hz : t.length ≤ 10000) (hrm : 16 ≤ C.rm)
  (s1 : stopF (a :: 124 :: b :: T) = false) (s2 : stopF (b :: T) = false) (s3 : stopF T = false) (h4 : ∀ a ∈ T.take 1, a ≠ 42 ∧ a ≠ 43 ∧ a ≠ 63 ∧ a ≠ 123) (h : k (.str (L "refused")) lc hp) : OpCall C (.ref 966) [.str t] k x lc hp := by
 refine OpCall.fn 15 (fn_966 _) fl_966 rfl (ds := []) (fun _ => rfl) (by walk_at "o") fun C' hC => ?_
 have hrm := hC.rm
 repeat walk1
 refine SX.tryR (Callee.top hC) (Callee.sc hC) (by kernel_rfl) (by kernel_rfl) (gl_RegexError _) (ofS_cps _) ?_
 repeat walk1
 exact c_read2 t ht h1 h2 h3 hz (by walk_at "o") s1 s2 s3 h4 h
end
end
example : True ∧ True := by first | (walk1; done) | exact ⟨trivial, trivial⟩
section
example : True := by
 k_with "c12_0" => ((with_reducible show OpSub _ _ _ (.ref _) (.int _) _ _ _ _); refine OpSub.lst (IsLst.m (by walk_at "hp")) (by simp) (by k_dflt rfl) ?_)
 trivial
local macro_rules | `(tactic| walk_at "OpSub") => `(tactic| k_extra "c12_0")
example : True := by
 k_with "c12_1" => (refine OpSetItem.lst (by walk_at "hp") (by simp) (by simp) (by simp) ?_)
 trivial
local macro_rules | `(tactic| walk_at "OpSetItem ref") => `(tactic| k_extra "c12_1")
example : True := by
 k_with "c12_2" => (refine OpNewList.fz (by simp [sizeLine_eq]) ?_)
 trivial
local macro_rules | `(tactic| walk_at "OpNewList") => `(tactic| k_extra "c12_2")
example : True := by
 k_with "c12_3" => (refine OpBin.mulR (by walk_at "o") ?_)
 trivial
local macro_rules | `(tactic| walk_at "OpBin Mult int int") => `(tactic| k_extra "c12_3")
noncomputable abbrev penO (cs : List Int) (sp rs : Int) : O := .list [.lst (cs.map .int), .int sp, .int rs]
theorem fm_nn (i : Int) {j : Int} (h : 0 < j) : 0 ≤ i.fmod j := by rw [Int.fmod_eq_emod_of_nonneg _ (by walk_at "o")]; exact Int.emod_nonneg _ (by walk_at "o")
theorem fm_lt (i : Int) {j : Int} (h : 0 < j) : i.fmod j < j := by rw [Int.fmod_eq_emod_of_nonneg _ (by walk_at "o")]; exact Int.emod_lt_of_pos _ h
theorem lay_ints : ∀ (cs : List Int), PyData.canLayAll0 (pds (cs.map .int)) = true ∧ PyData.depthAll (pds (cs.map .int)) = 0 ∧ isDs (cs.map .int) = true
 | [] => ⟨rfl, by simp [pds, PyData.depthAll], rfl⟩
 | p :: r => by
  obtain ⟨h1, h2, h3⟩ := lay_ints r
  simp only [List.map_cons, pds, V.pd, PyData.canLayAll0, PyData.canLay0, PyData.depthAll, PyData.depth, Bool.true_and, isDs, V.isD]
  exact ⟨h1, by exact oo5 h2, h3⟩
theorem shaped_ints (cs : List Int) : SeqAt.shaped (V.lst (cs.map .int)).pd = true := by
 obtain ⟨h1, h2, _⟩ := lay_ints cs
 simp only [SeqAt.shaped, V.pd, PyData.canLay0, PyData.depth, Bool.and_eq_true, decide_eq_true_eq]
 exact ⟨h1, by exact ob12 h2⟩
section
variable {C : Fm} {x : HP → Prop} {lc : Loc} {hp : HP} {k : V → Loc → HP → Prop} {p : Addr}
theorem OpCmp.ne_nil {cs : List Int} (h : k (.bool (!cs.isEmpty)) lc hp) : OpCmp C .NotEq (.lst (cs.map .int)) (.lst []) k x lc hp := by
 refine OpCmp.neD (IsDat.f (lay_ints cs).2.2) (IsDat.f rfl) (shaped_ints cs) (by decide +kernel) ?_
 have e : (!PyData.eqv (V.lst (cs.map .int)).pd (V.lst []).pd) = (!cs.isEmpty) := by
  cases cs <;> rfl
 rw [e]
 exact h
theorem OpBin.pow18 (h : k (.int (10 ^ 18)) lc hp) : OpBin C .Pow (.int 10) (.int 18) k x lc hp := OpBin.pow (by walk_at "o") (by decide) h
theorem OpBin.pow3 {i : Int} (hi : i.natAbs < 18446744073709551616) (h : ∀ v, k (.int v) lc hp) : OpBin C .Pow (.int i) (.int 3) k x lc hp := OpBin.pow (by walk_at "o") (by have := bits_le hi; omega) (h _)
example : True := by
 k_with "c12_4" => first | ((with_reducible show OpBin _ _ (.int 10) _ _ _ _ _); refine OpBin.pow18 ?_) | (refine OpBin.pow3 (by walk_at "o") ?_)
 trivial
local macro_rules | `(tactic| walk_at "OpBin Pow int int") => `(tactic| k_extra "c12_4")
section
variable {m i y : Int}
theorem d_1 (h : 1 ≤ m) (h2 : m ≤ 1000) : m.natAbs < 1073741824 := by omega
theorem d_2 (h : 1 ≤ m) : m ≠ 0 := fun e => by rw [e] at h; exact absurd h (by decide)
theorem d_3 (h : 0 ≤ i) (h2 : i ≤ 1000000) : i.natAbs < 2 ^ 64 := by omega
theorem d_4 (h : 0 ≤ i) (h2 : i ≤ 1000000) : (2 * i + 5009).natAbs < 2 ^ 64 := by omega
theorem d_5 (h : 0 ≤ y) (h1 : y < 2147483587) (h2 : 0 ≤ i) (h3 : i ≤ 1000000) : (y + 52021 * i + 6007).natAbs < 18446744073709551616 := by omega
theorem d_6 (h : 0 ≤ i) : 0 ≤ i + 1 := Int.add_nonneg h (by decide)
theorem d_7 {a : Int} {cs : List Int} (h : cs.length + 1 ≤ 48) : (List.map V.int (a :: cs)).length < 9223372036854775808 := by rw [List.length_map]; exact Nat.lt_of_le_of_lt h (by decide)
end
example : True := by
 k_with "o" => (with_reducible first | exact d_1 (by assumption) (by assumption) | exact d_2 (by assumption) | exact d_3 (by assumption) (by assumption) | exact d_4 (by assumption) (by assumption) | exact d_5 (by assumption) (by assumption) (by assumption) (by assumption) | exact d_6 (by assumption) | exact d_7 (by assumption) | exact Int.le_refl _ | fail)
 trivial
theorem c_draw (cs : List Int) (sp rs m : Int) (hc : cs.length ≤ 48) (h1 : 0 ≤ sp) (h2 : sp ≤ 1000000) (hm : 1 ≤ m) (hm2 : m ≤ 1000) (hrm : 1 ≤ C.rm) (h : ∀ d sp' rs', 0 ≤ d → d < m → 0 ≤ sp' → sp' ≤ sp + 1 → k (.int d) lc (hp.set p (penO cs sp' rs'))) :
  OpCall C (.ref 909) [.ref p, .int m] k x lc (hp.set p (penO cs sp rs)) := by
 refine OpCall.fn 0 (fn_909 _) fl_909 rfl (ds := []) (fun _ => rfl) (by walk_at "o") fun C' hC => ?_
 have hrm := hC.rm
 have fin : ∀ (i : Int) (sp' rs' : Int), 0 ≤ sp' → sp' ≤ sp + 1 → k (.int (i.fmod m)) lc (hp.set p (penO cs sp' rs')) := fun i sp' rs' g1 g2 => h _ _ _ (fm_nn _ hm) (fm_lt _ hm) g1 g2
 repeat' walk1
 ·rw [HP.set_set]
  exact fin _ _ _ (by first | exact h1 | exact d_6 h1) (by first | exact Int.le_refl _ | exact Int.le_add_one (Int.le_refl _))
 ·refine OpCmp.ne_nil ?_
  cases cs with
  | nil =>
   have m0 := fm_nn (7717 * sp + 31) (show (0 : Int) < 2147483587 by decide)
   have m1 := fm_lt (7717 * sp + 31) (show (0 : Int) < 2147483587 by decide)
   repeat' walk1
   all_goals simp only [HP.set_set]
   all_goals exact fin _ _ _ (by first | exact h1 | exact d_6 h1) (by first | exact Int.le_refl _ | exact Int.le_add_one (Int.le_refl _))
  | cons a cs =>
   have hl : ((List.map V.int (a :: cs)).length : Int) = cs.length + 1 := by simp
   have hl0 : (0 : Int) < ((List.map V.int (a :: cs)).length : Int) := by exact og13 hl
   have j0 := fm_nn sp hl0
   have j1 := fm_lt sp hl0
   have hc2 : cs.length + 1 ≤ 48 := by simpa using hc
   have hj : (sp.fmod ((List.map V.int (a :: cs)).length : Int)).toNat < (a :: cs).length := by simp only [List.length_cons]; exact oo8 hl j1
   have key : ∃ c, at? (List.map V.int (a :: cs)) (sp.fmod ((List.map V.int (a :: cs)).length : Int)) = some (.int c) := by
    refine ⟨(a :: cs)[(sp.fmod ((List.map V.int (a :: cs)).length : Int)).toNat], ?_⟩
    unfold at?
    rw [if_neg (Int.not_lt.mpr j0), List.getElem?_map, List.getElem?_eq_getElem hj]
    rfl
   obtain ⟨cl, key⟩ := key
   have m0 := fm_nn cl (show (0 : Int) < 2147483587 by decide)
   have m1 := fm_lt cl (show (0 : Int) < 2147483587 by decide)
   have hl9 := Int.ne_of_gt hl0
   repeat walk1
   refine OpSub.lst IsLst.f (by simp only [List.length_map, List.length_cons]; exact or11 hc2) key ?_
   repeat' walk1
   all_goals simp only [HP.set_set]
   all_goals exact fin _ _ _ (by first | exact h1 | exact d_6 h1) (by first | exact Int.le_refl _ | exact Int.le_add_one (Int.le_refl _))
end
end
example : True ∧ True := by first | (walk1; done) | exact ⟨trivial, trivial⟩
section
section
variable {C : Fm} {x : HP → Prop} {lc : Loc} {hp : HP} {k : V → Loc → HP → Prop} {p : Addr}
theorem c_law_hex (i : Int) (n : Nat) (hi : i = n) (h1 : n < 256) (hrm : 1 ≤ C.rm) (h : k (.str (hexE n)) lc hp) : OpCall C (.ref 933) [.int i] k x lc hp := by
 subst hi
 refine OpCall.fn 0 (fn_933 _) fl_933 rfl (ds := []) (fun _ => rfl) (by walk_at "o") fun C' hC => ?_
 repeat walk1
 refine OpSub.str (by decide) (fdiv_nn n) (hexd_get (fdiv16 n) (by walk_at "o")) ?_
 repeat walk1
 refine OpSub.str (by decide) (fmod_nn n) (hexd_get (fmod16 n) (by walk_at "o")) ?_
 repeat walk1
 exact h
theorem any_ints (l : List Int) (i : Int) : ((l.map V.int).any fun y => PyData.eqv y.pd (V.int i).pd) = decide (i ∈ l) := by
 induction l with
 | nil => rfl
 | cons a r ih =>
  rw [List.map_cons, List.any_cons, ih]
  have e : PyData.eqv (V.int a).pd (V.int i).pd = (a == i) := rfl
  rw [e]
  by_cases q : a = i
  ·subst q; simp
  ·have q' : i ≠ a := fun z => q z.symm
   simp [q, q']
theorem OpCmp.inInts {l : List Int} {i : Int} (h : k (.bool (decide (i ∈ l))) lc hp) : OpCmp C .In (.int i) (.tup (l.map V.int)) k x lc hp := by
 refine OpCmp.inT ?_ rfl ?_ rfl rfl ?_
 ·exact (lay_ints l).2.2
 ·intro y hy
  obtain ⟨a, _, rfl⟩ := List.mem_map.mp hy
  rfl
 ·rw [any_ints]; exact h
noncomputable def innC (n : Nat) : List Nat := if decide ((n : Int) ∈ [92, 93, 91, 94, 45]) = true then L "\\" ++ [n] else if (decide ((n : Int) < 32) || (decide (126 < (n : Int)) || false)) = true then hexE n else [n]
theorem c_law_inner (i : Int) (n : Nat) (hi : i = n) (h1 : n < 128) (hrm : 2 ≤ C.rm) (h : k (.str (innC n)) lc hp) : OpCall C (.ref 940) [.int i] k x lc hp := by
 subst hi
 refine OpCall.fn 1 (fn_940 _) fl_940 rfl (ds := []) (fun _ => rfl) (by walk_at "o") fun C' hC => ?_
 have hrm := hC.rm
 unfold innC at h
 repeat walk1
 refine OpCmp.inInts (l := [92, 93, 91, 94, 45]) ?_
 repeat' walk1
 ·rw [if_pos (by assumption)] at h
  exact h
 ·rw [if_neg (by assumption), if_pos (by assumption)] at h
  exact c_law_hex _ n rfl (by walk_at "o") (by walk_at "o") h
 ·rw [if_neg (by assumption), if_neg (by assumption)] at h
  exact h
noncomputable def spnS (acc : List (Int × Int)) (i : Int) (b : Bool) : List (Int × Int) :=
 if (b && (!acc.isEmpty && ((lastP acc).2 == i - 1 && true))) = true then acc.set (acc.length - 1) ((lastP acc).1, i) else if b = true then acc ++ [(i, i)] else acc
noncomputable def spnN (bs : List Bool) : Nat → List (Int × Int)
 | 0 => []
 | n + 1 => spnS (spnN bs n) n (bs.getD n false)
noncomputable def spsP (bs : List Bool) : List (Int × Int) := spnN bs 128
theorem spnN_len (bs : List Bool) : ∀ n, (spnN bs n).length ≤ n
 | 0 => by simp [spnN]
 | n + 1 => by
  have := spnN_len bs n
  unfold spnN spnS
  split
  ·simp; exact ov0 this
  ·split
   ·simp; exact oi6 this
   ·exact ov0 this
theorem OpCmp.ne_nilM {a : Addr} {acc : List (Int × Int)} (e : hp a = some (.list (acc.map prV))) (h : k (.bool (!(acc.map prV).isEmpty)) lc hp) : OpCmp C .NotEq (.ref a) (.lst []) k x lc hp := by
 refine OpCmp.neD (IsDat.m e (isDs_prs acc)) (IsDat.f rfl) ?_ (by decide +kernel) ?_
 ·obtain ⟨h1, h2⟩ := lay_prs acc
  simp only [SeqAt.shaped, PyData.canLay0, PyData.depth, Bool.and_eq_true]
  exact ⟨h1, decide_eq_true (by walk_at "o")⟩
 have e : (!PyData.eqv (.list (pds (acc.map prV))) (V.lst []).pd) = (!(acc.map prV).isEmpty) := by
  cases acc <;> rfl
 rw [e]
 exact h
example : True := by
 k_with "c13_0" => ((with_reducible show OpSub _ _ _ (.ref _) (.int (-1)) _ _ _ _); refine OpSub.last (IsLst.m (by walk_at "hp")) (by walk_at "sz") (by exact (Bool.and_eq_true_iff.mp (Bool.and_eq_true_iff.mp (by assumption)).2).1) ?_)
 trivial
local macro_rules | `(tactic| walk_at "OpSub") => `(tactic| k_extra "c13_0")
example : True := by
 k_with "c13_1" => (refine OpSetItem.last (by walk_at "hp") (by walk_at "sz") (by exact (Bool.and_eq_true_iff.mp (Bool.and_eq_true_iff.mp (by assumption)).2).1) ?_)
 trivial
local macro_rules | `(tactic| walk_at "OpSetItem ref") => `(tactic| k_extra "c13_1")
example : True := by
 k_with "c13_2" => ((with_reducible show OpSub _ _ _ (.lst _) _ _ _ _ _); refine OpSub.lst IsLst.f (by walk_at "sz") (by assumption) ?_)
 trivial
local macro_rules | `(tactic| walk_at "OpSub") => `(tactic| k_extra "c13_2")
example : True := by
 k_with "c13_3" => (refine OpNewList.fz (by simp [sizeLine_eq]) ?_)
 trivial
local macro_rules | `(tactic| walk_at "OpNewList") => `(tactic| k_extra "c13_3")
example : True := by
 k_with "c13_4" => (refine OpCmp.ne_nilM (by walk_at "hp") ?_)
 trivial
local macro_rules | `(tactic| walk_at "OpCmp NotEq ref lst") => `(tactic| k_extra "c13_4")
theorem c_law_spans (bs : List Bool) (hb : bs.length = 128) (hrm : 1 ≤ C.rm) (h : k (.lst ((spsP bs).map prV)) lc hp) : OpCall C (.ref 926) [.lst (bs.map .bool)] k x lc hp := by
 refine Tri.outFD (OpCall.fn 0 (fn_926 _) fl_926 rfl (ds := []) (fun _ => rfl) (by walk_at "o") fun C' hC => ?_)
 walk1
 walk1
 walk1
 walk1
 refine OpNewList.mk (by simp) fun a ha => ?_
 repeat walk1
 let I9 : Nat → Loc → HP → Prop := fun i lc' hp' => Done (lc'.lookup (S "found") = some (.ref a) ∧ lc'.lookup (S "held") = some (.lst (bs.map .bool)) ∧ hp' = hp.set a (.list ((spnN bs i).map prV)))
 refine ⟨⟨_, I9, .inr (.inr ⟨0, 128, rfl, rfl, by decide⟩), ⟨by rfl, by rfl, rfl⟩, ?_, ?_⟩⟩
 ·rintro i y lc' hp' hy ⟨w1, w2, rfl⟩
  obtain ⟨hi, rfl⟩ : i < 128 ∧ y = .int i := by
   rw [List.getElem?_map] at hy
   cases q : (List.range ((128 : Int) - 0).toNat)[i]? with
   | none => rw [q] at hy; cases hy
   | some j =>
    rw [q] at hy
    obtain ⟨q1, q2⟩ := List.getElem?_eq_some_iff.mp q
    simp at q1 q2
    subst q2
    exact ⟨by exact oz11 q1, by simpa using hy.symm⟩
  have hbi : at? (bs.map V.bool) (i : Int) = some (.bool (bs.getD i false)) := by
   unfold at?
   rw [if_neg (by walk_at "o"), Int.toNat_natCast, List.getElem?_map, List.getD_eq_getElem?_getD, List.getElem?_eq_getElem (by walk_at "o")]
   rfl
  have hl := spnN_len bs i
  have e : spnN bs (i + 1) = spnS (spnN bs i) i (bs.getD i false) := rfl
  generalize spnN bs i = acc at *
  generalize bs.getD i false = b at *
  repeat' walk1
  ·rename_i q
   rw [List.isEmpty_map] at q
   refine ⟨by walk_at "lk", by walk_at "lk", ?_⟩
   rw [HP.set_set, e, spnS, if_pos q]
  ·rename_i q1 q2
   rw [List.isEmpty_map] at q1
   refine ⟨by walk_at "lk", by walk_at "lk", ?_⟩
   rw [HP.set_set, e, spnS, if_neg q1, if_pos q2, List.map_append]; rfl
  ·rename_i q1 q2
   rw [List.isEmpty_map] at q1
   refine ⟨by walk_at "lk", by walk_at "lk", ?_⟩
   rw [e, spnS, if_neg q1, if_neg q2]
 ·rintro lc' hp' ⟨w1, w2, rfl⟩
  repeat walk1
  refine ⟨⟨a, _, _, hp, rfl, HP.set_get .., rfl, HP.le_del_set ha, ?_⟩⟩
  rw [List.length_map, List.length_range]
  exact h
end
end
example : True ∧ True := by first | (walk1; done) | exact ⟨trivial, trivial⟩
section
section
variable {C : Fm} {x : HP → Prop} {lc : Loc} {hp : HP} {k : V → Loc → HP → Prop} {p : Addr}
theorem shaped_lst (sp : List (Int × Int)) : SeqAt.shaped (V.lst (sp.map prV)).pd = true := by
 obtain ⟨h1, h2⟩ := lay_prs sp
 simp only [SeqAt.shaped, V.pd, PyData.canLay0, PyData.depth, Bool.and_eq_true, decide_eq_true_eq]
 exact ⟨h1, by exact ou5 h2⟩
theorem OpCmp.eqPrs {sp sp2 : List (Int × Int)} {w : V} (hw : w = .lst (sp2.map prV)) (h : k (.bool (decide (sp = sp2))) lc hp) : OpCmp C .Eq (.lst (sp.map prV)) w k x lc hp := by
 subst hw
 refine OpCmp.eqD (IsDat.f (isDs_prs sp)) (IsDat.f (isDs_prs sp2)) (shaped_lst sp) (shaped_lst sp2) ?_
 rw [show PyData.eqv (V.lst (sp.map prV)).pd (V.lst (sp2.map prV)).pd = decide (sp = sp2) by simp only [V.pd, PyData.eqv]; exact eqv_prs sp sp2]
 exact h
theorem c_law_inner' (i : Int) (h0 : 0 ≤ i) (h1 : i < 128) (hrm : 2 ≤ C.rm) (h : k (.str (innC i.toNat)) lc hp) : OpCall C (.ref 940) [.int i] k x lc hp := c_law_inner i i.toNat (by walk_at "o") (by walk_at "o") hrm h
theorem c_law_hex' (i : Int) (h0 : 0 ≤ i) (h1 : i < 256) (hrm : 1 ≤ C.rm) (h : k (.str (hexE i.toNat)) lc hp) : OpCall C (.ref 933) [.int i] k x lc hp := c_law_hex i i.toNat (by walk_at "o") (by walk_at "o") hrm h
theorem innC_len (n : Nat) : (innC n).length ≤ 4 := by
 unfold innC
 split
 ·simp [L]
 ·split
  ·simp [hexE, L]
  ·simp
noncomputable def texS (acc : List Nat) (p : Int × Int) : List Nat := acc ++ innC p.1.toNat ++ (if decide (p.1 + 1 < p.2) = true then L "-" else L "") ++ (if decide (p.1 < p.2) = true then innC p.2.toNat else L "")
theorem texS_len (sp : List (Int × Int)) : ∀ i, ((sp.take i).foldl texS []).length ≤ 9 * i
 | 0 => by simp
 | i + 1 => by
  have ih := texS_len sp i
  cases h : sp[i]? with
  | none =>
   have : sp.length ≤ i := List.getElem?_eq_none_iff.mp h
   rw [List.take_of_length_le (by walk_at "o")]
   rw [List.take_of_length_le this] at ih
   exact oz8 ih
  | some p =>
   rw [foldl_take _ _ _ h]
   generalize (sp.take i).foldl texS [] = acc at *
   have h1 := innC_len p.1.toNat
   have h2 := innC_len p.2.toNat
   have h3 : (L "-").length = 1 := rfl
   have h4 : (L "").length = 0 := rfl
   unfold texS
   simp only [List.length_append]
   split <;> split <;> omega
noncomputable def oneC (i : Int) : List Nat :=
 if decide (i ∈ [9, 10]) = true then (if i = 9 then L "\\t" else L "\\n") else if decide (i.toNat ∈ L "\"[](){}.*+?|^$/<%\\") = true then L "\\" ++ [i.toNat] else
 if (decide (i ≤ 32) || (decide (126 < i) || false)) = true then hexE i.toNat else [i.toNat]
noncomputable def lshP (sp : List (Int × Int)) : List Nat :=
 if decide (sp = []) = true then L "[^\\x00-\\x7f]" else if decide (sp = [(0, 9), (11, 127)]) = true then L "." else
 if ((((sp.map prV).length : Int) == 1) && ((sp.headD (0, 0)).1 == (sp.headD (0, 0)).2 && true)) = true then oneC (sp.headD (0, 0)).1 else L "[" ++ sp.foldl texS [] ++ L "]"
example : True := by
 k_with "c14_0" => (refine OpNewList.fz (by simp [sizeLine_eq]) ?_)
 trivial
local macro_rules | `(tactic| walk_at "OpNewList") => `(tactic| k_extra "c14_0")
example : True := by
 k_with "c14_1" => (refine OpCmp.eqPrs (sp2 := []) (by k_dflt rfl) ?_)
 trivial
local macro_rules | `(tactic| walk_at "OpCmp Eq lst lst") => `(tactic| k_extra "c14_1")
example : True := by
 k_with "c14_2" => (refine OpCmp.eqPrs (sp2 := [(0, 9), (11, 127)]) (by k_dflt rfl) ?_)
 trivial
local macro_rules | `(tactic| walk_at "OpCmp Eq lst lst") => `(tactic| k_extra "c14_2")
example : True := by
 k_with "c14_3" => first | ((with_reducible show OpCall _ (.ref 940) _ _ _ _ _); refine c_law_inner' _ (by walk_at "o") (by walk_at "o") (by walk_at "o") ?_) | ((with_reducible show OpCall _ (.ref 933) _ _ _ _ _); refine c_law_hex' _ (by walk_at "o") (by walk_at "o") (by walk_at "o") ?_)
 trivial
local macro_rules | `(tactic| walk_at "OpCall ref") => `(tactic| k_extra "c14_3")
theorem OpSub.hd1 {value slice : PySem.Expr} {sp : List (Int × Int)} (h1 : (((sp.map prV).length : Int) == 1) = true) (h : k (prV (sp.headD (0, 0))) lc hp) : OpSub C value slice (.lst (sp.map prV)) (.int 0) k x lc hp := by
 cases sp with
 | nil => cases h1
 | cons p r =>
  have : (r.length : Int) + 1 = 1 := by simpa using h1
  refine OpSub.lst IsLst.f (by simp; exact oa14 this) (y := prV p) rfl h
example : True := by
 k_with "c14_4" => ((with_reducible show OpSub _ _ _ (.lst (List.map _ _)) (.int 0) _ _ _ _); refine OpSub.hd1 (by first | assumption | exact (Bool.and_eq_true_iff.mp (by assumption)).1) ?_)
 trivial
local macro_rules | `(tactic| walk_at "OpSub") => `(tactic| k_extra "c14_4")
section
variable {n m i : Nat} {a : Int} {u v w z : List Nat}
theorem g_0 (h : m ≤ 128) (hi : i < m) (hn : n ≤ 9 * i) : n ≤ 1152 := Nat.le_trans hn (Nat.mul_le_mul_left 9 (Nat.le_trans (Nat.le_of_lt hi) h))
theorem g_1 (h : u.length ≤ 1152) (h1 : v.length ≤ 4) : u.length + v.length ≤ sizeLine := by rw [sizeLine_eq]; exact Nat.le_trans (Nat.add_le_add h h1) (by decide)
theorem g_2 (h : u.length ≤ 1152) (h1 : v.length ≤ 4) (h2 : w.length ≤ 1) : (u ++ v).length + w.length ≤ sizeLine := by rw [sizeLine_eq, List.length_append]; exact Nat.le_trans (Nat.add_le_add (Nat.add_le_add h h1) h2) (by decide)
theorem g_3 (h : u.length ≤ 1152) (h1 : v.length ≤ 4) (h2 : w.length ≤ 1) (h3 : z.length ≤ 4) : (u ++ v ++ w).length + z.length ≤ sizeLine := by rw [sizeLine_eq, List.length_append, List.length_append]; exact Nat.le_trans (Nat.add_le_add (Nat.add_le_add (Nat.add_le_add h h1) h2) h3) (by decide)
theorem g_4 (h : a ≤ 127) : a < 128 := Int.lt_of_le_of_lt h (by decide)
theorem g_5 (h : a ≤ 127) : a ≤ 1114111 := Int.le_trans h (by decide)
theorem g_6 (h : a ≤ 127) : a < 256 := Int.lt_of_le_of_lt h (by decide)
theorem g_7 (h : n ≤ 128) : n < 9223372036854775808 := Nat.lt_of_le_of_lt h (by decide)
end
example : True := by
 k_with "sz" => (first | (with_reducible first | exact g_1 (by assumption) (by assumption) | exact s_5 (by assumption) (by assumption) | exact s_6 (by assumption) (by assumption)) | exact g_3 (by assumption) (by assumption) (by assumption) (by assumption) | exact g_2 (by assumption) (by assumption) (by assumption) | fail)
 k_with "o" => (with_reducible first | exact g_4 (by assumption) | exact g_5 (by assumption) | exact g_6 (by assumption) | exact g_7 (by assumption) | fail)
 trivial
theorem c_law_shown (bs : List Bool) (hb : bs.length = 128) (hB : InB (spsP bs)) (hrm : 3 ≤ C.rm) (h : k (.str (lshP (spsP bs))) lc hp) : OpCall C (.ref 947) [.lst (bs.map .bool)] k x lc hp := by
 refine OpCall.fn 2 (fn_947 _) fl_947 rfl (ds := []) (fun _ => rfl) (by walk_at "o") fun C' hC => ?_
 have hrm := hC.rm
 repeat walk1
 refine c_law_spans bs hb (by walk_at "o") ?_
 have hl : (spsP bs).length ≤ 128 := spnN_len bs 128
 generalize spsP bs = sp at *
 have hK : sp.length ≤ 1000 := Nat.le_trans hl (by decide)
 unfold lshP at h
 repeat' walk1
 ·rw [if_pos (by assumption)] at h; exact h
 ·rw [if_neg (by assumption), if_pos (by assumption)] at h; exact h
 ·rename_i q
  rw [if_neg (by assumption), if_neg (by assumption), if_pos q] at h
  have hq := (Bool.and_eq_true_iff.mp q).1
  obtain ⟨p, rfl⟩ : ∃ p, sp = [p] := by
   cases sp with
   | nil => cases hq
   | cons p r =>
    have : (r.length : Int) + 1 = 1 := by simpa using hq
    have : r = [] := List.length_eq_zero_iff.mp (by walk_at "o")
    exact ⟨p, by rw [this]⟩
  obtain ⟨b1, b2, b3, b4⟩ := hB p (.head _)
  dsimp only [List.headD_cons] at h ⊢
  generalize p.1 = i at *
  unfold oneC at h
  refine OpCmp.inInts (l := [9, 10]) ?_
  repeat' walk1
  ·rename_i q9
   rw [if_pos q9] at h
   have q9 : i = 9 ∨ i = 10 := by simpa using of_decide_eq_true q9
   rcases q9 with rfl | rfl
   ·exact OpSub.lst IsLst.f (by simp) (y := .str (L "\\t")) rfl h
   ·exact OpSub.lst IsLst.f (by simp) (y := .str (L "\\n")) rfl h
  ·rw [if_neg (by assumption), if_pos (by assumption)] at h; exact h
  ·rw [if_neg (by assumption), if_neg (by assumption)] at h
   have e9 : ∀ (b : Bool) (u v : List Nat), V.str (if b = true then u else v) = V.str (if b = true then u else v) := fun _ _ _ => rfl
   exact h
 ·rename_i q
  rw [if_neg (by assumption), if_neg (by assumption), if_neg q] at h
  let I9 : Nat → Loc → HP → Prop := fun i lc' hp' => Done (lc'.lookup (S "text") = some (.str ((sp.take i).foldl texS [])) ∧ hp' = hp)
  refine ⟨⟨sp.map prV, I9, .inl rfl, ⟨by rfl, rfl⟩, ?_, ?_⟩⟩
  ·rintro i y lc' hp' hy ⟨hk, rfl⟩
   obtain ⟨p, hp1, rfl⟩ := getMap hy
   have e := foldl_take texS [] sp hp1
   have hl := texS_len sp i
   have hi : i < sp.length := (List.getElem?_eq_some_iff.mp hp1).1
   obtain ⟨b1, b2, b3, b4⟩ := hB p (List.mem_of_getElem? hp1)
   generalize (sp.take i).foldl texS [] = acc at *
   have hA := g_0 (by assumption) hi hl
   show OpAssign C' _ (.tup [.int p.1, .int p.2]) _ _ _ _
   have h1 := innC_len p.1.toNat
   have h2 := innC_len p.2.toNat
   have h3 : (if decide (p.1 + 1 < p.2) = true then L "-" else L "").length ≤ 1 := by split <;> simp [L]
   have h4 : (if decide (p.1 < p.2) = true then innC p.2.toNat else L "").length ≤ 4 := by split; exact h2; exact Nat.zero_le _
   repeat' walk1
   refine ⟨?_, rfl⟩
   rw [e]
   walk_at "lk"
  ·rintro lc' hp' ⟨hk, rfl⟩
   have hl := texS_len sp sp.length
   rw [List.length_map, List.take_length] at *
   repeat' walk1
   exact h
end
end
example : True ∧ True := by first | (walk1; done) | exact ⟨trivial, trivial⟩
section
theorem fd64 (n : Nat) : Int.fdiv (n : Int) 64 = ((n / 64 : Nat) : Int) := by rw [Int.fdiv_eq_ediv_of_nonneg _ (by walk_at "o")]; exact ot13
theorem fd8 (n : Nat) : Int.fdiv (n : Int) 8 = ((n / 8 : Nat) : Int) := by rw [Int.fdiv_eq_ediv_of_nonneg _ (by walk_at "o")]; exact op13
theorem fm8 (n : Nat) : Int.fmod (n : Int) 8 = ((n % 8 : Nat) : Int) := by rw [Int.fmod_eq_emod_of_nonneg _ (by walk_at "o")]; exact ot9
noncomputable abbrev octE (n : Nat) : List Nat := L "\\" ++ [hexd (n / 64)] ++ [hexd (n / 8 % 8)] ++ [hexd (n % 8)]
noncomputable def hexu (n : Nat) : Nat := (L "0123456789ABCDEF").getD n 0
noncomputable def hexU (n : Nat) : List Nat := L "\\x" ++ [hexu (n / 16), hexu (n % 16)]
noncomputable def SpL (n : Nat) (s : List Nat) : Prop :=
 ((32 ≤ n ∧ n < 127 ∧ (n : Int) ∉ ([92, 93, 91, 94, 45] : List Int)) ∧ s = [n]) ∨ s = octE n ∨ (7 ≤ n ∧ n ≤ 13 ∧ s = L "\\" ++ [(L "abtnvfr").getD (n - 7) 0]) ∨ (32 ≤ n ∧ n < 127 ∧ n ∉ L "abtnvfrx01234567" ∧ s = L "\\" ++ [n]) ∨ s = hexE n ∨ s = hexU n
theorem upper_ok : ∀ a : Fin 16, ∀ b : Fin 16, (Txt.upper ⟨[hexd a.val, hexd b.val].toArray⟩).cps.toList = [hexu a.val, hexu b.val] := by decide +kernel
section
variable {C : Fm} {x : HP → Prop} {lc : Loc} {hp : HP} {k : V → Loc → HP → Prop} {p : Addr}
theorem c_fig {value slice : PySem.Expr} (i : Int) (n : Nat) (hi : i = n) (h1 : n < 16) (h : k (.str [hexd n]) lc hp) : OpSub C value slice (.str (L "0123456789abcdef")) (.int i) k x lc hp := by
 subst hi
 exact OpSub.str (by decide) (by walk_at "o") (hexd_get (Int.toNat_natCast n) h1) h
theorem OpCmp.notInInts {l : List Int} {i : Int} (h : k (.bool (!decide (i ∈ l))) lc hp) : OpCmp C .NotIn (.int i) (.tup (l.map V.int)) k x lc hp := by
 refine OpCmp.notInT ?_ rfl ?_ rfl rfl ?_
 ·exact (lay_ints l).2.2
 ·intro y hy
  obtain ⟨a, _, rfl⟩ := List.mem_map.mp hy
  rfl
 ·rw [any_ints]; exact h
example : True := by
 k_with "c15_0" => (refine OpCmp.notInInts (l := [92, 93, 91, 94, 45]) ?_)
 trivial
local macro_rules | `(tactic| walk_at "OpCmp NotIn int tup") => `(tactic| k_extra "c15_0")
example : True := by
 k_with "c15_1" => first | ((with_reducible show OpCall _ (.ref 933) _ _ _ _ _); refine c_law_hex' _ (by walk_at "o") (by walk_at "o") (by walk_at "o") ?_)
 trivial
local macro_rules | `(tactic| walk_at "OpCall ref") => `(tactic| k_extra "c15_1")
theorem c_spelled (cs : List Int) (sp rs : Int) (hc : cs.length ≤ 48) (h1 : 0 ≤ sp) (h2 : sp ≤ 1000000) (n : Nat) (hn : n < 128) (i : Int) (hi : i = n) (hrm : 3 ≤ C.rm) (h : ∀ s sp' rs', SpL n s → 0 ≤ sp' → sp' ≤ sp + 1 → k (.str s) lc (hp.set p (penO cs sp' rs'))) :
  OpCall C (.ref 954) [.ref p, .int i] k x lc (hp.set p (penO cs sp rs)) := by
 subst hi
 refine OpCall.fn 2 (fn_954 _) fl_954 rfl (ds := []) (fun _ => rfl) (by walk_at "o") fun C' hC => ?_
 have hrm := hC.rm
 repeat walk1
 refine c_draw cs sp rs 5 hc h1 h2 (by walk_at "o") (by walk_at "o") (by walk_at "o") fun d sp' rs' d0 d1 e0 e1 => ?_
 have fin : ∀ s, SpL n s → k (.str s) lc (hp.set p (penO cs sp' rs')) := fun s hs => h s sp' rs' hs e0 e1
 clear h
 repeat' walk1
 ·rename_i q
  simp only [Bool.and_eq_true, Bool.not_eq_true', decide_eq_true_eq, decide_eq_false_iff_not] at q
  exact fin _ (.inl ⟨⟨by omega, by omega, q.2.2.1⟩, rfl⟩)
 ·rw [fd64]
  refine c_fig _ (n / 64) rfl (by walk_at "o") ?_
  repeat walk1
  rw [fd8, fm8]
  refine c_fig _ (n / 8 % 8) rfl (by walk_at "o") ?_
  repeat walk1
  rw [fm8]
  refine c_fig _ (n % 8) rfl (by walk_at "o") ?_
  repeat walk1
  exact fin _ (.inr (.inl rfl))
 ·rename_i q
  simp only [Bool.and_eq_true, decide_eq_true_eq] at q
  have hlt : n - 7 < (L "abtnvfr").length := by show n - 7 < 7; omega
  refine OpSub.str (by decide) (by walk_at "o") (c := (L "abtnvfr").getD (n - 7) 0) ?_ ?_
  ·rw [show ((n : Int) - 7).toNat = n - 7 by exact oi1, List.getD_eq_getElem?_getD, List.getElem?_eq_getElem hlt]; rfl
  repeat walk1
  exact fin _ (.inr (.inr (.inl ⟨by omega, by omega, rfl⟩)))
 ·rename_i q
  simp only [Bool.and_eq_true, Bool.not_eq_true', decide_eq_true_eq, decide_eq_false_iff_not, Int.toNat_natCast] at q
  exact fin _ (.inr (.inr (.inr (.inl ⟨by omega, by omega, q.2.2.1, rfl⟩))))
 ·exact fin _ (.inr (.inr (.inr (.inr (.inl rfl)))))
 ·refine OpSlice.str (nn_some (by walk_at "o")) nn_none (by simp [hexE, L]) ?_
  rw [show cut (some 2) none (hexE (n : Int).toNat) = [hexd (n / 16), hexd (n % 16)] from rfl]
  repeat walk1
  refine OpCall.upper (by simp) (upper_ok ⟨n / 16, by exact ol0 hn⟩ ⟨n % 16, by exact on0⟩) ?_
  repeat walk1
  exact fin _ (.inr (.inr (.inr (.inr (.inr rfl)))))
end
end
example : True ∧ True := by first | (walk1; done) | exact ⟨trivial, trivial⟩
section
section
variable {C : Fm} {x : HP → Prop} {lc : Loc} {hp : HP} {k : V → Loc → HP → Prop} {p : Addr}
theorem c_law_pen (ss : List Int) (hz : ss.length ≤ 64) (hrm : 1 ≤ C.rm) (h : ∀ p, hp p = none → k (.ref p) lc (hp.set p (penO (ss.take 48) 0 0))) : OpCall C (.ref 902) [.lst (ss.map .int)] k x lc hp := by
 refine OpCall.fn 0 (fn_902 _) fl_902 rfl (ds := []) (fun _ => rfl) (by walk_at "o") fun C' hC => ?_
 repeat walk1
 refine OpSlice.lst IsLst.f nn_none (nn_some (by walk_at "o")) (by rw [List.length_map]; exact om13 hz) ?_
 have e : cut none (some 48) (ss.map V.int) = (ss.take 48).map V.int := by
  show ((ss.map V.int).take 48).drop 0 = _
  rw [List.drop_zero, List.map_take]
 rw [e]
 refine ⟨⟨(ss.take 48).map V.int, id, fun _ => true, .inl rfl, by rw [List.length_map, List.length_take]; exact om4, fun C2 hp' y h2 l hy => ?_, ?_⟩⟩
 ·obtain ⟨i, _, rfl⟩ := List.mem_map.mp hy
  repeat walk1
  refine ⟨rfl, rfl, fun _ => ?_⟩
  repeat walk1
  exact ⟨rfl, rfl⟩
 ·repeat walk1
  refine OpNewList.mk (by simp [sizeLine_eq]) fun p hp => ?_
  repeat walk1
  have e2 : ((((ss.take 48).map V.int).filter fun _ => true).map id) = (ss.take 48).map V.int := by simp
  rw [e2]
  exact h p hp
noncomputable def Bad (T : List Nat) : Prop := T.length ≤ 100 ∧ ∃ a r, T = a :: r ∧ (a = 91 ∨ a = 92 ∨ 128 ≤ a) ∧ (a = 91 → clsP (r.length + 1) true [] (if (r.take 1 == L "^") = true then r.drop 1 else r) = none) ∧ (a ≠ 91 → codeP a r = none)
theorem Bad.sgl {T t : List Nat} (h : Bad T) (hs : T <:+ t) (hz : t.length ≤ 10000) : Sgl t T (fun _ _ => False) True := by
 obtain ⟨_, a, r, rfl, h1, h2, h3⟩ := h
 intro C k x lc hp rr c hrm hr hn hx _
 have hx := hx trivial
 by_cases ha : a = 91
 ·subst ha
  exact c_single_cls hr hn hs hz hrm _ rfl (fun _ => hx) fun ps r' e => by rw [h2 rfl] at e; cases e
 ·refine c_single_sign hr hn hs hz hrm (fun _ => hx) ⟨?_, ha, ?_, ?_, ?_⟩ fun _ n r' e => by rw [h3 ha] at e; cases e
  all_goals omega
theorem Bad.stop {T : List Nat} (h : Bad T) : stopF T = false := by
 obtain ⟨_, a, r, rfl, h1, h2, h3⟩ := h
 have g : ∀ b, b ≠ a → ((a :: r).take 1 == [b]) = false := fun b hb => by
  rw [List.take_succ_cons, List.take_zero, beq_eq_false_iff_ne]
  intro z
  injection z with z
  exact hb z.symm
 show (((a :: r).take 1 == []) || (((a :: r).take 1 == [124]) || (((a :: r).take 1 == [41]) || false))) = false
 rw [g 124 (by walk_at "o"), g 41 (by walk_at "o")]
 rfl
theorem letter_sgl {a : Nat} {T t : List Nat} (ha : a = 97 ∨ a = 98) (hs : a :: T <:+ t) (hz : t.length ≤ 10000) : Sgl t (a :: T) (fun v r' => r' = T) False := by
 intro C k x lc hp rr c hrm hr hn hx h
 have e0 : codeP a T = some (a, T) := by
  unfold codeP
  rw [if_neg (by walk_at "o"), if_neg (by walk_at "o")]
 have hns : a ∉ L "*+?]}^$/ \t\n" := by rcases ha with rfl | rfl <;> decide
 refine c_single_sign hr hn hs hz hrm (fun z => ?_) ⟨?_, ?_, ?_, ?_, ?_⟩ fun _ n r' e => ?_
 ·rcases z with z | z
  ·exact absurd z hns
  ·rw [e0] at z; cases z
 ·exact ox12 ha
 ·exact oy12 ha
 ·exact oz12 ha
 ·exact oc13 ha
 ·exact oa13 ha
 ·rw [e0] at e
  cases e
  exact h _ _ rfl
theorem Bad.heard {T : List Nat} (h : Bad T) (hrm : 16 ≤ C.rm) (hk : k (.str (L "refused")) lc hp) : OpCall C (.ref 966) [.str T] k x lc hp :=
 c_heard0 T (h.sgl (List.suffix_refl _) (by have := h.1; exact oy7 this)) (by have := h.1; exact oy7 this) hrm h.stop hk
theorem Bad.heard2 {T : List Nat} (h : Bad T) (hrm : 16 ≤ C.rm) (hk : k (.str (L "refused")) lc hp) : OpCall C (.ref 966) [.str (L "a|b" ++ T)] k x lc hp := by
 have hz : (97 :: 124 :: 98 :: T).length ≤ 10000 := by have := h.1; simp only [List.length_cons]; exact oq10 this
 have s1 : 98 :: T <:+ 97 :: 124 :: 98 :: T := ⟨[97, 124], rfl⟩
 refine c_heard2 (a := 97) (b := 98) (T := T) _ rfl (letter_sgl (.inl rfl) (List.suffix_refl _) hz) (letter_sgl (.inr rfl) s1 hz) (h.sgl (sfx_tl s1) hz) hz hrm rfl rfl h.stop ?_ hk
 obtain ⟨_, a, r, rfl, h1, h2, h3⟩ := h
 intro b hb
 obtain rfl : b = a := by simpa using hb
 exact oj3 h1
example : True := by
 k_with "c16_0" => (refine OpNewList.fz (by simp [sizeLine_eq]) ?_)
 trivial
local macro_rules | `(tactic| walk_at "OpNewList") => `(tactic| k_extra "c16_0")
example : True := by
 k_with "c16_1" => first | ((with_reducible show OpCall _ (.ref 933) _ _ _ _ _); refine c_law_hex' _ (by walk_at "o") (by walk_at "o") (by walk_at "o") ?_) | ((with_reducible show OpCall _ (.ref 966) _ _ _ _ _); refine Bad.heard (by assumption) (by walk_at "o") ?_) | ((with_reducible show OpCall _ (.ref 966) _ _ _ _ _); refine Bad.heard2 (by assumption) (by walk_at "o") ?_)
 trivial
local macro_rules | `(tactic| walk_at "OpCall ref") => `(tactic| k_extra "c16_1")
inductive AllB : List V → Prop
 | nil : AllB []
 | cons {T : List Nat} {l : List V} (h : Bad T) (r : AllB l) : AllB (.str T :: l)
theorem AllB.of {l : List (List Nat)} (h : ∀ T ∈ l, Bad T) : AllB (l.map .str) := by
 induction l with
 | nil => exact .nil
 | cons a r ih => exact .cons (h a (.head _)) (ih fun T z => h T (.tail _ z))
theorem AllB.mem {l : List V} (h : AllB l) {y : V} (hy : y ∈ l) : ∃ T, y = .str T ∧ Bad T := by
 induction h with
 | nil => cases hy
 | cons b _ ih =>
  rcases List.mem_cons.mp hy with z | z
  ·exact ⟨_, z, b⟩
  ·exact ih z
theorem AllB.at {l : List V} (h : AllB l) {i : Int} (h0 : 0 ≤ i) (h1 : i < l.length) : ∃ T, at? l i = some (.str T) ∧ Bad T := by
 have hj : i.toNat < l.length := by omega
 obtain ⟨T, e, b⟩ := h.mem (List.getElem_mem hj)
 exact ⟨T, by unfold at?; rw [if_neg (Int.not_lt.mpr h0), List.getElem?_eq_getElem hj, e], b⟩
section
variable {m n k : Nat} {a b : Int} {T : List Nat}
theorem x_1 : (L "[").length + (hexE n).length ≤ sizeLine := by rw [sizeLine_eq]; exact Nat.le_of_ble_eq_true rfl
theorem x_2 : (L "[" ++ hexE n).length + (L "-").length ≤ sizeLine := by rw [sizeLine_eq]; exact Nat.le_of_ble_eq_true rfl
theorem x_3 : (L "[" ++ hexE n ++ L "-").length + (hexE k).length ≤ sizeLine := by rw [sizeLine_eq]; exact Nat.le_of_ble_eq_true rfl
theorem x_4 : (L "[" ++ hexE n ++ L "-" ++ hexE k).length + (L "]").length ≤ sizeLine := by rw [sizeLine_eq]; exact Nat.le_of_ble_eq_true rfl
theorem x_5 : (L "[a").length + (hexE n).length ≤ sizeLine := by rw [sizeLine_eq]; exact Nat.le_of_ble_eq_true rfl
theorem x_6 : (L "[a" ++ hexE n).length + (L "]").length ≤ sizeLine := by rw [sizeLine_eq]; exact Nat.le_of_ble_eq_true rfl
theorem x_7 (h : T.length ≤ 100) : (L "a|b").length + T.length ≤ sizeLine := by rw [sizeLine_eq]; exact Nat.le_trans (Nat.add_le_add_left h _) (by decide)
theorem y_0 : 0 ≤ (m : Int) := Int.natCast_nonneg m
theorem y_1 (h : m < 256) : (m : Int) < 256 := Int.ofNat_lt.mpr h
theorem y_2 (h : m < 256) : (m : Int) ≤ 1114111 := Int.ofNat_le.mpr (Nat.le_trans (Nat.le_of_lt h) (by decide))
theorem y_3 : 0 ≤ (m : Int) + 1 := Int.natCast_nonneg (m + 1)
theorem y_4 (h : (m : Int) < 127) : (m : Int) + 1 < 256 := Int.lt_of_le_of_lt h (by decide)
theorem y_5 (h : (m : Int) < 127) : (m : Int) < 256 := Int.lt_trans h (by decide)
theorem y_6 (h : m < 256) : m / 64 < 16 := Nat.div_lt_of_lt_mul (Nat.lt_trans h (by decide))
theorem y_7 : m % 8 < 16 := Nat.lt_trans (Nat.mod_lt _ (by decide)) (by decide)
theorem y_8 (h : m = 17) : 16 ≤ m := by rw [h]; decide
theorem q_1 (h : a ≤ 900000) (h1 : b ≤ a + 1) : b ≤ 900001 := Int.le_trans h1 (Int.add_le_add_right h 1)
theorem q_2 (h : a ≤ 900001) (h1 : b ≤ a + 1) : b ≤ 1000000 := Int.le_trans h1 (Int.le_trans (Int.add_le_add_right h 1) (by decide))
end
example : True := by
 k_with "sz" => (with_reducible first | exact x_1 | exact x_2 | exact x_3 | exact x_4 | exact x_5 | exact x_6 | exact x_7 (by assumption) | fail)
 k_with "o" => (with_reducible first | exact y_0 | exact y_1 (by assumption) | exact y_2 (by assumption) | exact y_3 | exact y_4 (by assumption) | exact y_5 (by assumption) | exact y_8 (by assumption) | fail)
 trivial
theorem c_refused (cs : List Int) (sp rs : Int) (hc : cs.length ≤ 48) (h1 : 0 ≤ sp) (h2 : sp ≤ 900000) (hrm : 18 ≤ C.rm)
  (hb1 : ∀ n, 128 ≤ n → n < 256 → Bad (hexE n) ∧ Bad (octE n) ∧ Bad (L "[" ++ octE n ++ L "]") ∧ Bad (L "[a" ++ hexE n ++ L "]") ∧ Bad [n] ∧ Bad (L "[" ++ [n] ++ L "]"))
  (hb2 : ∀ n, n < 127 → Bad (L "[" ++ hexE (n + 1) ++ L "-" ++ hexE n ++ L "]"))
  (hb3 : ∀ T ∈ [L "[[:alph:]]", L "[[:Alpha:]]", L "[[:digit]]", L "[[::]]", L "[a[:word:]]", L "[ab", L "[", L "[^]", L "[]", L "[a-", L "\\"], Bad T)
  (h : ∀ sp' rs', k (.bool true) lc (hp.set p (penO cs sp' rs'))) : OpCall C (.ref 971) [.ref p] k x lc (hp.set p (penO cs sp rs)) := by
 refine OpCall.fn 17 (fn_971 _) fl_971 rfl (ds := []) (fun _ => rfl) (by walk_at "o") fun C' hC => ?_
 have hrm := hC.rm
 repeat walk1
 refine c_draw cs sp rs 128 hc h1 (Int.le_trans h2 (by decide)) (by decide) (by decide) (by walk_at "o") fun d sp' rs' d0 d1 e0 e1 => ?_
 obtain ⟨n, rfl⟩ : ∃ n : Nat, d = n := ⟨d.toNat, by exact oh1 d0⟩
 obtain ⟨b1, b2, b3, b4, b5, b6⟩ := hb1 (128 + n) (Nat.le_add_right ..) (by exact oe11 d1)
 repeat walk1
 rw [show (128 : Int) + (n : Int) = ((128 + n : Nat) : Int) by exact ox11]
 have hm : 128 + n < 256 := by exact oe11 d1
 have hm0 : 128 ≤ 128 + n := by exact ov7
 generalize 128 + n = m at *
 rw [fd64]
 refine c_fig _ (m / 64) rfl (y_6 hm) ?_
 repeat walk1
 rw [fd8, fm8]
 refine c_fig _ (m / 8 % 8) rfl y_7 ?_
 repeat walk1
 rw [fm8]
 refine c_fig _ (m % 8) rfl y_7 ?_
 repeat walk1
 have e2 := q_1 h2 e1
 refine c_draw cs sp' rs' 127 hc e0 (Int.le_trans e2 (by decide)) (by decide) (by decide) (by walk_at "o") fun d2 sp2 rs2 d20 d21 e20 e21 => ?_
 obtain ⟨l, rfl⟩ : ∃ l : Nat, d2 = l := ⟨d2.toNat, by exact oh1 d20⟩
 have b7 := hb2 l (Int.ofNat_lt.mp d21)
 have hl4 : (octE m).length = 4 := by simp [octE, L]
 repeat walk1
 rw [show ((l : Int) + 1).toNat = l + 1 by exact os3]
 repeat walk1
 rw [show ((l : Int)).toNat = l by exact ov2]
 repeat walk1
 refine c_draw cs sp2 rs2 5 hc e20 (q_2 e2 e21) (by decide) (by decide) (by walk_at "o") fun d3 sp3 rs3 d30 d31 e30 e31 => ?_
 have key := (AllB.of (l := [L "[[:alph:]]", L "[[:Alpha:]]", L "[[:digit]]", L "[[::]]", L "[a[:word:]]"]) fun T z => hb3 T (List.mem_append_left _ z)).at d30 d31
 obtain ⟨T, kT, b8⟩ := key
 refine OpSub.lst IsLst.f (by simp) kT ?_
 repeat walk1
 rw [Int.toNat_natCast]
 refine ⟨⟨_, id, fun _ => false, .inl rfl, by simp, fun C2 hp' y h2 lq hy => ?_, ?_⟩⟩
 ·have A6 := AllB.of (l := [L "[ab", L "[", L "[^]", L "[]", L "[a-", L "\\"]) fun T z => hb3 T (.tail _ (.tail _ (.tail _ (.tail _ (.tail _ z)))))
  have key := AllB.mem (AllB.cons b1 (.cons b2 (.cons b3 (.cons b4 (.cons b5 (.cons b6 (.cons b7 (.cons b8 A6)))))))) hy
  obtain ⟨T9, rfl, b9⟩ := key
  have l9 := b9.1
  have hrm2 := h2.rm.trans hrm
  clear b1 b2 b3 b4 b5 b6 b7 b8 kT hb1 hb2 hb3 hy
  repeat walk1
  refine ⟨rfl, ?_, fun z => ?_⟩
  ·simp
  ·simp at z
 ·repeat walk1
  show OpCmp _ _ (V.lst []) (V.lst []) _ _ _ _
  refine OpCmp.eqD (IsDat.f rfl) (IsDat.f rfl) (by decide +kernel) (by decide +kernel) ?_
  exact h _ _
end
end
example : True ∧ True := by first | (walk1; done) | exact ⟨trivial, trivial⟩
section
noncomputable def rngI (a b : Int) : List Int := (List.range (b - a).toNat).map (fun i => a + (i : Nat))
noncomputable abbrev lsI (l : List Int) : V := .lst (l.map .int)
theorem rngL_eq (a b : Int) : rngL a b = (rngI a b).map .int := by unfold rngL rngI; rw [List.map_map]; rfl
section
variable {C : Fm} {x : HP → Prop} {lc : Loc} {hp : HP} {k : V → Loc → HP → Prop} {p : Addr}
theorem OpCall.listRI {a b : Int} (hsm : Builtin.Range.small a b 1 = true) (hz : (b - a).toNat ≤ 1048576) (h : k (lsI (rngI a b)) lc hp) : OpCall C (.raw (.type "list")) [.rng a b] k x lc hp := OpCall.listR hsm hz (by rw [rngL_eq]; exact h)
theorem OpBin.addLI {A B : List Int} (hz : A.length + B.length ≤ 1048576) (h : k (lsI (A ++ B)) lc hp) : OpBin C .Add (lsI A) (lsI B) k x lc hp := OpBin.addL IsLst.f IsLst.f (by rw [List.length_map, List.length_map]; exact hz) (by rw [← List.map_append]; exact h)
theorem OpSlice.takeI {value slice : PySem.Expr} {A : List Int} {n : Nat} (hz : A.length ≤ 1048576) (h : k (lsI (A.take n)) lc hp) : OpSlice C value slice (lsI A) none (some (n : Int)) k x lc hp := by
 refine OpSlice.lst IsLst.f nn_none (nn_some (by walk_at "o")) (by rw [List.length_map]; exact hz) ?_
 rw [show cut none (some (n : Int)) (A.map V.int) = (A.take n).map V.int by show ((A.map V.int).take n).drop 0 = _; rw [List.drop_zero, List.map_take]]
 exact h
theorem OpCmp.notInIL {l : List Int} {i : Int} (h : k (.bool (!decide (i ∈ l))) lc hp) : OpCmp C .NotIn (.int i) (lsI l) k x lc hp := by
 refine OpCmp.notInL IsLst.f ?_ rfl ?_ rfl rfl ?_
 ·exact (lay_ints l).2.2
 ·intro y hy
  obtain ⟨a, _, rfl⟩ := List.mem_map.mp hy
  rfl
 ·rw [any_ints]; exact h
theorem OpCmp.inIL {l : List Int} {i : Int} (h : k (.bool (decide (i ∈ l))) lc hp) : OpCmp C .In (.int i) (lsI l) k x lc hp := by
 refine OpCmp.inL IsLst.f ?_ rfl ?_ rfl rfl ?_
 ·exact (lay_ints l).2.2
 ·intro y hy
  obtain ⟨a, _, rfl⟩ := List.mem_map.mp hy
  rfl
 ·rw [any_ints]; exact h
theorem SX.wswap {elts : List PySem.Expr} {kk : Nat} {p pos : Pos} {e : PySem.Expr} {n1 n2 n3 : Str} {k : Fl → Loc → HP → Prop} {fd : FuncData} {C0 : Fm} {rm : Nat} {cl : List (Str × Addr)} (hC : CalleeC C0 C fd rm cl)
  (h : SE C e (fun v lc hp => Done (∃ a b c, v = .tup [a, b, c] ∧ OpStore C n3 c (fun _ lc hp => OpStore C n2 b (fun _ lc hp => OpStore C n1 a (fun _ lc hp => k .next lc hp) x lc hp) x lc hp) x lc hp)) x lc hp)
  (h1 : swapsWithSole [.Tuple elts kk p] e pos.line C.env = pure false) (h2 : ∀ env : Env, env.scope = fd.scope → swappedStores [.Tuple elts kk p] e env = pure (some [n1, n2, n3])) : SX C (.Assign [.Tuple elts kk p] e pos) k x lc hp := SX.swap3D h h1 (h2 _ hC.sc)
example : True := by
 k_with "c17_0" => ((with_reducible show OpCall _ (V.raw (.type "list")) [.rng _ _] _ _ _ _); refine OpCall.listRI (by decide) (by decide) ?_)
 trivial
local macro_rules | `(tactic| walk_at "OpCall raw") => `(tactic| k_extra "c17_0")
example : True := by
 k_with "c17_1" => first | (refine OpBin.addLI (by decide) ?_) | (refine OpBin.addLI (B := [127]) (by decide) ?_)
 trivial
local macro_rules | `(tactic| walk_at "OpBin Add lst lst") => `(tactic| k_extra "c17_1")
example : True := by
 k_with "c17_2" => (refine OpNewList.fz (by simp [sizeLine_eq]) ?_)
 trivial
local macro_rules | `(tactic| walk_at "OpNewList") => `(tactic| k_extra "c17_2")
theorem OpSubD {value slice : PySem.Expr} {v y : V} {ks : List (List Nat)} {xs : List V} {key : String} (i : IsDct hp v ks xs) (hn : ks.Nodup) (e : lookD (L key) ks xs = some y) (h : k y lc hp) : OpSub C value slice v (.str (L key)) k x lc hp := OpSub.dict i hn e h
example : True := by
 k_with "c17_3" => (refine OpSetItem.dict (by walk_at "hp") (by decide +kernel) (by decide +kernel) ?_)
 trivial
local macro_rules | `(tactic| walk_at "OpSetItem ref str") => `(tactic| k_extra "c17_3")
example : True := by
 k_with "c17_4" => ((with_reducible show OpSub _ _ _ (.ref _) (.str _) _ _ _ _); refine OpSubD (IsDct.m (by walk_at "hp")) (by decide +kernel) (by k_dflt rfl) ?_)
 trivial
local macro_rules | `(tactic| walk_at "OpSub") => `(tactic| k_extra "c17_4")
example : True := by
 k_with "c17_5" => (refine OpCmp.notInIL ?_)
 trivial
local macro_rules | `(tactic| walk_at "OpCmp NotIn int lst") => `(tactic| k_extra "c17_5")
example : True := by
 k_with "c17_6" => (refine OpSlice.takeI (n := 6) (by decide) ?_)
 trivial
local macro_rules | `(tactic| walk_at "OpSlice") => `(tactic| k_extra "c17_6")
example : True := by
 k_with "c17_7" => first | refine SP.nil ?_ | refine SP.cons (ofS_cps _) ?_
 trivial
local macro_rules | `(tactic| walk_at "SP") => `(tactic| k_extra "c17_7")
example : True := by
 k_with "c17_8" => refine SP.cons (ofS_cps _) ?_
 trivial
local macro_rules | `(tactic| walk_at "SP cons") => `(tactic| k_extra "c17_8")
noncomputable def alnI : List Int := rngI 48 58 ++ rngI 65 91 ++ rngI 97 123
noncomputable def wK : List (List Nat) := [L "lower", L "upper", L "digit", L "alpha", L "alnum", L "space", L "blank", L "xdigit", L "graph", L "print", L "cntrl", L "punct"]
noncomputable def wI : List (List Int) := [rngI 97 123, rngI 65 91, rngI 48 58, rngI 65 91 ++ rngI 97 123, alnI, [9, 10, 11, 12, 13, 32], [9, 32], rngI 48 58 ++ (rngI 65 91).take 6 ++ (rngI 97 123).take 6, rngI 33 127, rngI 32 127, rngI 0 32 ++ [127], (rngI 33 127).filter fun i => !decide (i ∈ alnI)]
noncomputable abbrev wV : V := .dict wK (wI.map lsI)
theorem rng_int (a b : Int) : (List.range (b - a).toNat).map (fun i => V.int (a + (i : Nat))) = (rngI a b).map .int := rngL_eq a b
noncomputable def qInt (f : Int → Bool) : V → Bool
 | .int i => f i
 | _ => false
theorem filter_ints (l : List Int) (f : Int → Bool) : (((l.map V.int).filter (qInt f)).map id) = (l.filter f).map .int := by
 rw [List.map_id, List.filter_map]; rfl
theorem OpCall.fnCD {fd : FuncData} {f : Addr} {body : List Stmt} {ns : List Str} {nv : Nat} {vs : List V} (rm : Nat) {k : V → Loc → HP → Prop}
  (G : FnOk C.W.w.params f fd body ns nv []) (hnv : vs.length = nv)
  (hkind : ∀ n, ∀ y ∈ ns, fd.scope.names.lookup y = some .local ∨ (fd.scope.names.lookup y = some .cell ∧ ((cellsFrom n fd.scope.names []).lookup y).isSome = true))
  (hndc : ∀ n, ((cellsFrom n fd.scope.names []).map (·.1)).Nodup) (hrm : rm < C.rm)
  (hb : ∀ C' n, CalleeC C C' fd rm (cellsFrom n fd.scope.names []) → (∀ c, n ≤ c → hp c = none) →
   SXs C' body (fun fl _ hp' => Done (∃ hp2, HP.le hp2 hp' ∧ k (retV fl) lc hp2)) x ((ns.zip vs).filter fun p => isLoc fd.scope p.1) (hp.cells (fun z => if isLoc fd.scope z then none else (ns.zip vs).lookup z) (cellsFrom n fd.scope.names []))) : OpCall C (.ref f) vs k x lc hp :=
 OpCall.fnC rm G hnv hkind hndc hrm fun C' n h1 h2 => Tri.mono (hb C' n h1 h2) (fun _ _ _ d => d.out) fun _ q => q
theorem c_law_words (hrm : 1 ≤ C.rm) (h : k wV lc hp) : OpCall C (.ref 914) [] k x lc hp := by
 refine Tri.outFD (OpCall.fnCD 0 (fn_914 _) rfl (by intro n y hy; cases hy) (fun n => ?_) (by walk_at "o") fun C' n hC hn => ?_)
 ·rw [show cellsFrom n (fd "_law_words" "_law_words" (mi 64) 3 N N N (s "law_pq0578_01" 1482) (r 913) N 0 none).scope.names [] = [(S "found", n)] from by kernel_rfl]
  exact List.nodup_cons.mpr ⟨List.not_mem_nil, .nil⟩
 have ec : cellsFrom n (fd "_law_words" "_law_words" (mi 64) 3 N N N (s "law_pq0578_01" 1482) (r 913) N 0 none).scope.names [] = [(S "found", n)] := by kernel_rfl
 rw [ec] at hC ⊢
 show SXs C' _ _ _ [] (hp.set n (.cell none))
 walk1
 refine SX.wswap hC (n1 := S "small") (n2 := S "great") (n3 := S "figures") ?_ (by k_dflt rfl) (fun env he => by unfold swappedStores Env.blockKind Env.kindOf; rw [he]; kernel_rfl)
 repeat walk1
 refine ⟨⟨_, _, _, rfl, ?_⟩⟩
 repeat walk1
 refine SE.dictD (by k_dflt rfl) (by k_dflt rfl) (by simp) (by decide) fun a ha => ?_
 obtain ⟨ha, hna⟩ := HP.set_none ha
 repeat walk1
 refine ⟨⟨HP.set_get .., by decide +kernel, ?_⟩⟩
 repeat walk1
 refine ⟨⟨(rngI 33 127).map .int, id, qInt fun i => !decide (i ∈ alnI), .inr (.inr ⟨33, 127, rfl, (rng_int 33 127).symm, by decide⟩), by decide, fun C2 hp' y h2 lq hy => ?_, ?_⟩⟩
 ·obtain ⟨i, _, rfl⟩ := List.mem_map.mp hy
  have g1 : hp' n = some (.cell (some (.ref a))) := lq n _ (by walk_at "hp")
  have g2 := lq a _ (HP.set_get ..)
  repeat walk1
  refine ⟨rfl, rfl, fun _ => ?_⟩
  repeat walk1
  exact ⟨rfl, rfl⟩
 ·rw [filter_ints]
  repeat walk1
  refine ⟨⟨_, HP.le_refl _, ⟨⟨a, _, _, hp, rfl, HP.set_get .., rfl, ?_, h⟩⟩⟩⟩
  have hn0 : hp n = none := hn n (Nat.le_refl _)
  refine HP.le_del ha ?_
  repeat (refine HP.le_set' (by assumption) ?_)
  exact HP.le_refl _
end
end
example : True ∧ True := by first | (walk1; done) | exact ⟨trivial, trivial⟩
section
noncomputable def bit (bs : List Bool) (i : Nat) : Bool := bs.getD i false
noncomputable def chg (bs : List Bool) : Nat := ((List.range 127).filter fun i => bit bs i != bit bs (i + 1)).length
noncomputable def tab (g : Int → Bool) : List Bool := (rngI 0 128).map g
theorem tab_len (g : Int → Bool) : (tab g).length = 128 := by unfold tab rngI; simp
theorem tab_bit (g : Int → Bool) {i : Nat} (h : i < 128) : bit (tab g) i = g i := by
 unfold bit tab rngI
 rw [List.getD_eq_getElem?_getD, List.map_map, List.getElem?_map, List.getElem?_range (by walk_at "o")]
 simp
theorem nodup_sub {α : Type} [DecidableEq α] : ∀ {l1 l2 : List α}, l1.Nodup → l1 ⊆ l2 → l1.length ≤ l2.length
 | [], _, _, _ => Nat.zero_le _
 | a :: r, l2, h, s => by
  obtain ⟨h1, h2⟩ := List.nodup_cons.mp h
  have ha : a ∈ l2 := s (.head _)
  have := nodup_sub (l2 := l2.erase a) h2 fun b hb => (List.mem_erase_of_ne fun z => h1 (by rw [← z]; exact hb)).mpr (s (.tail _ hb))
  rw [List.length_erase_of_mem ha] at this
  have := List.length_pos_of_mem ha
  simp only [List.length_cons]; omega
theorem chg_le {b1 b2 : List Bool} {D : List Nat} (h : ∀ i, i < 127 → bit b1 i = bit b1 (i + 1) → i ∉ D → bit b2 i = bit b2 (i + 1)) : chg b2 ≤ chg b1 + D.length := by
 unfold chg
 have key : ((List.range 127).filter fun i => bit b2 i != bit b2 (i + 1)).length ≤ (((List.range 127).filter fun i => bit b1 i != bit b1 (i + 1)) ++ D).length := by
  refine nodup_sub (List.Pairwise.filter _ List.nodup_range) fun i hi => ?_
  obtain ⟨h1, h2⟩ := List.mem_filter.mp hi
  rw [List.mem_range] at h1
  rw [List.mem_append, List.mem_filter, List.mem_range]
  by_cases hD : i ∈ D
  ·exact .inr hD
  ·refine .inl ⟨h1, ?_⟩
   by_cases q : bit b1 i = bit b1 (i + 1)
   ·have := h i h1 q hD
    rw [this] at h2
    simp at h2
   ·simpa using q
 simpa using key
theorem chg_or (bs : List Bool) (lo hi : Int) : chg (tab fun c => bit bs c.toNat || (decide (lo ≤ c) && decide (c ≤ hi))) ≤ chg bs + 2 := by
 refine chg_le (D := [(lo - 1).toNat, hi.toNat]) fun i hi' e hD => ?_
 simp only [List.mem_cons, List.not_mem_nil, or_false, not_or] at hD
 rw [tab_bit _ (by walk_at "o"), tab_bit _ (by walk_at "o")]
 simp only [Int.toNat_natCast]
 rw [e]
 congr 1
 by_cases h1 : lo ≤ (i : Int) <;> by_cases h2 : (i : Int) ≤ hi <;> by_cases h3 : lo ≤ ((i + 1 : Nat) : Int) <;> by_cases h4 : ((i + 1 : Nat) : Int) ≤ hi <;> simp only [h1, h2, h3, h4, decide_true, decide_false, Bool.and_true, Bool.and_false, Bool.true_and, Bool.false_and] <;> omega
theorem chg_not (bs : List Bool) (hb : bs.length = 128) : chg (bs.map fun b => !b) ≤ chg bs := by
 have := chg_le (b1 := bs) (b2 := bs.map fun b => !b) (D := []) fun i hi e _ => by
  unfold bit at *
  rw [List.getD_eq_getElem?_getD, List.getD_eq_getElem?_getD, List.getElem?_map, List.getElem?_map]
  rw [List.getD_eq_getElem?_getD, List.getD_eq_getElem?_getD] at e
  rw [List.getElem?_eq_getElem (by walk_at "o"), List.getElem?_eq_getElem (by walk_at "o")] at e ⊢
  simp only [Option.getD_some, Option.map_some] at e ⊢
  rw [e]
 simpa using this
theorem chg_nl : chg (tab fun c => c != 10) ≤ 8 := by decide +kernel
theorem chg_words : ∀ l ∈ wI, chg (tab fun c => decide (c ∈ l)) ≤ 8 := by decide +kernel
structure HF (hp hq : HP) (p n : Nat) (pen : O) : Prop where
 fp : hq p = some pen
 fr : ∀ b : Nat, b < n → b ≠ p → hq b = hp b
theorem HP.neN {hp : HP} {a b : Nat} {o o' : O} (h : a ≠ b) (e : hp a = some o) : (hp.set b o') a = some o := HP.get_ne h e
theorem HP.set_off {hp : HP} {a b : Nat} {o : O} (h : a ≠ b) : (hp.set b o) a = hp a := by unfold HP.set; exact if_neg h
theorem HF.set {hp hq : HP} {p n m : Nat} {pen o : O} (h : HF hp hq p n pen) (hm : n ≤ m) (hpn : p < n) : HF hp (hq.set m o) p n pen :=
 ⟨HP.neN (by walk_at "o") h.fp, fun b h1 h2 => (HP.set_off (by walk_at "o")).trans (h.fr b h1 h2)⟩
theorem HF.setp {hp hq : HP} {p n : Nat} {pen pen' : O} (h : HF hp hq p n pen) : HF hp (hq.set p pen') p n pen' :=
 ⟨HP.set_get .., fun b h1 h2 => (HP.set_off h2).trans (h.fr b h1 h2)⟩
theorem HF.le {hp hq : HP} {p n : Nat} {pen : O} (h : HF hp hq p n pen) (hn : ∀ c : Nat, n ≤ c → hp c = none) : HP.le (hp.set p pen) hq := fun b ob e => by
 have b' : Nat := b
 by_cases q : b = p
 ·subst q
  rw [HP.set_get] at e
  rw [h.fp]; exact e
 ·have e : hp b = some ob := by
   unfold HP.set at e
   rw [if_neg q] at e
   exact e
  have q2 : (b : Nat) < n := Nat.lt_of_not_le fun z => by rw [hn b z] at e; cases e
  rw [h.fr b q2 q]; exact e
structure CH (hp H : HP) (p n : Nat) (pen : O) (v1 v2 v3 v4 : Option V) : Prop where
 g : HF hp H p n pen
 pn : p < n
 c0 : H n = some (.cell (some wV))
 c1 : H (n + 1) = some (.cell v1)
 c2 : H (n + 2) = some (.cell v2)
 c3 : H (n + 3) = some (.cell v3)
 c4 : H (n + 4) = some (.cell v4)
theorem nk_ {n a b : Nat} (h : a ≠ b) : n + a ≠ n + b := fun e => h (Nat.add_left_cancel e)
theorem nk0 {n b : Nat} (h : 0 < b) : n ≠ n + b := Nat.ne_of_lt (Nat.lt_add_of_pos_right h)
theorem np_ {p n : Nat} (h : p < n) (b : Nat) : n + b ≠ p := Nat.ne_of_gt (Nat.lt_of_lt_of_le h (Nat.le_add_right ..))
section
variable {hp H : HP} {p n : Nat} {pen : O} {v1 v2 v3 v4 : Option V}
theorem CH.init (pn : p < n) (h : hp p = some pen) : CH hp (((((hp.set n (.cell (some wV))).set (n + 1) (.cell none)).set (n + 2) (.cell none)).set (n + 3) (.cell none)).set (n + 4) (.cell none)) p n pen none none none none :=
 ⟨HF.set (HF.set (HF.set (HF.set (HF.set ⟨h, fun _ _ _ => rfl⟩ (Nat.le_refl _) pn) (Nat.le_add_right ..) pn) (Nat.le_add_right ..) pn) (Nat.le_add_right ..) pn) (Nat.le_add_right ..) pn, pn,
  HP.neN (nk0 (by decide)) (HP.neN (nk0 (by decide)) (HP.neN (nk0 (by decide)) (HP.neN (nk0 (by decide)) (HP.set_get ..)))), HP.neN (nk_ (by decide)) (HP.neN (nk_ (by decide)) (HP.neN (nk_ (by decide)) (HP.set_get ..))), HP.neN (nk_ (by decide)) (HP.neN (nk_ (by decide)) (HP.set_get ..)), HP.neN (nk_ (by decide)) (HP.set_get ..), HP.set_get ..⟩
theorem CH.setp {pen' : O} (h : CH hp H p n pen v1 v2 v3 v4) : CH hp (H.set p pen') p n pen' v1 v2 v3 v4 :=
 ⟨h.g.setp, h.pn, HP.neN (np_ h.pn 0) h.c0, HP.neN (np_ h.pn 1) h.c1, HP.neN (np_ h.pn 2) h.c2, HP.neN (np_ h.pn 3) h.c3, HP.neN (np_ h.pn 4) h.c4⟩
theorem CH.set1 (v : Option V) (h : CH hp H p n pen v1 v2 v3 v4) : CH hp (H.set (n + 1) (.cell v)) p n pen v v2 v3 v4 :=
 ⟨h.g.set (Nat.le_add_right ..) h.pn, h.pn, HP.neN (nk0 (by decide)) h.c0, HP.set_get .., HP.neN (nk_ (by decide)) h.c2, HP.neN (nk_ (by decide)) h.c3, HP.neN (nk_ (by decide)) h.c4⟩
theorem CH.set2 (v : Option V) (h : CH hp H p n pen v1 v2 v3 v4) : CH hp (H.set (n + 2) (.cell v)) p n pen v1 v v3 v4 :=
 ⟨h.g.set (Nat.le_add_right ..) h.pn, h.pn, HP.neN (nk0 (by decide)) h.c0, HP.neN (nk_ (by decide)) h.c1, HP.set_get .., HP.neN (nk_ (by decide)) h.c3, HP.neN (nk_ (by decide)) h.c4⟩
theorem CH.set3 (v : Option V) (h : CH hp H p n pen v1 v2 v3 v4) : CH hp (H.set (n + 3) (.cell v)) p n pen v1 v2 v v4 :=
 ⟨h.g.set (Nat.le_add_right ..) h.pn, h.pn, HP.neN (nk0 (by decide)) h.c0, HP.neN (nk_ (by decide)) h.c1, HP.neN (nk_ (by decide)) h.c2, HP.set_get .., HP.neN (nk_ (by decide)) h.c4⟩
theorem CH.set4 (v : Option V) (h : CH hp H p n pen v1 v2 v3 v4) : CH hp (H.set (n + 4) (.cell v)) p n pen v1 v2 v3 v :=
 ⟨h.g.set (Nat.le_add_right ..) h.pn, h.pn, HP.neN (nk0 (by decide)) h.c0, HP.neN (nk_ (by decide)) h.c1, HP.neN (nk_ (by decide)) h.c2, HP.neN (nk_ (by decide)) h.c3, HP.set_get ..⟩
end
structure Sp (a b : Int) (n : Nat) : Prop where
 nn : 0 ≤ b
 le : b ≤ a + n
 hi : a ≤ 900000
section
variable {a b c : Int} {n m i j s w f g : Nat}
theorem Sp.lt (h : Sp a b n) (hn : n ≤ 10000) : b ≤ 1000000 := by
 have := h.le
 have := h.hi
 omega
theorem Sp.add (h : Sp a b n) (h1 : 0 ≤ c) (h2 : c ≤ b + 1) : Sp a c (n + 1) := ⟨h1, by
 have := h.le
 omega, h.hi⟩
theorem Sp.mono (h : Sp a b n) (hn : n ≤ m) : Sp a b m := ⟨h.nn, Int.le_trans h.le (Int.add_le_add_left (Int.ofNat_le.mpr hn) a), h.hi⟩
theorem Sp.fin (h : Sp a b n) (hn : n ≤ 200) : b ≤ a + 200 := Int.le_trans h.le (Int.add_le_add_left (Int.ofNat_le.mpr hn) a)
theorem le_128 (h : n = 128) : n ≤ 1048576 := by rw [h]; decide
theorem lt_129 (h : n = 128) (h2 : a < 128) : a < n := by rw [h]; exact h2
end
section
variable {C : Fm} {x : HP → Prop} {lc : Loc} {hp : HP} {k : V → Loc → HP → Prop} {p : Nat}
theorem c_drawF (cs : List Int) (sp rs m : Int) (e : hp p = some (penO cs sp rs)) (hc : cs.length ≤ 48) (h1 : 0 ≤ sp) (h2 : sp ≤ 1000000) (hm : 1 ≤ m) (hm2 : m ≤ 1000) (hrm : 1 ≤ C.rm) (h : ∀ d sp' rs', 0 ≤ d → d < m → 0 ≤ sp' → sp' ≤ sp + 1 → k (.int d) lc (hp.set p (penO cs sp' rs'))) :
  OpCall C (.ref 909) [.ref p, .int m] k x lc hp := by
 have e2 : hp.set p (penO cs sp rs) = hp := HP.set_same e
 rw [← e2]
 refine c_draw cs sp rs m hc h1 h2 hm hm2 hrm fun d sp' rs' a b c d => ?_
 exact h _ sp' rs' a b c d
theorem c_drawS {a : Int} {N : Nat} {cs : List Int} {sp rs : Int} (m : Int) (e : hp p = some (penO cs sp rs)) (hc : cs.length ≤ 48) (h2 : Sp a sp N) (hN : N ≤ 10000) (hm : 1 ≤ m) (hm2 : m ≤ 1000) (hrm : 1 ≤ C.rm) (h : ∀ d sp' rs', 0 ≤ d → d < m → Sp a sp' (N + 1) → k (.int d) lc (hp.set p (penO cs sp' rs'))) :
  OpCall C (.ref 909) [.ref p, .int m] k x lc hp :=
 c_drawF cs sp rs m e hc h2.nn (h2.lt hN) hm hm2 hrm fun d sp' rs' d0 d9 b c => h d sp' rs' d0 d9 (h2.add b c)
theorem OpStore.drop {n : Str} {v : V} {k : Unit → Loc → HP → Prop} {a : Addr} {o : O} (ha : hp a = none) (h : OpStore C n v k x lc hp) : OpStore C n v k x lc (hp.set a o) :=
 Tri.weaken h (fun _ _ z => z) (HP.le_set' ha (HP.le_refl _))
noncomputable def tabF (g : Int → Bool) : V → V
 | .int i => .bool (g i)
 | v => v
theorem tab_map (g : Int → Bool) : (((rngI 0 128).map V.int).filter fun _ => true).map (tabF g) = (tab g).map .bool := by
 rw [List.filter_eq_self.mpr fun _ _ => rfl]; unfold tab; rw [List.map_map, List.map_map]; rfl
noncomputable def notF : V → V
 | .bool b => .bool (!b)
 | v => v
theorem not_map (bs : List Bool) : ((bs.map V.bool).filter fun _ => true).map notF = (bs.map fun b => !b).map .bool := by
 rw [List.filter_eq_self.mpr fun _ _ => rfl, List.map_map, List.map_map]; rfl
theorem rngI_mem {a b i : Int} (h : i ∈ rngI a b) : a ≤ i ∧ i < b := by
 unfold rngI at h
 obtain ⟨j, hj, rfl⟩ := List.mem_map.mp h
 have := List.mem_range.mp hj
 exact on9 this
theorem at_bool {bs : List Bool} {i : Int} (h0 : 0 ≤ i) (h1 : i < bs.length) : at? (bs.map V.bool) i = some (.bool (bit bs i.toNat)) := by
 unfold at? bit
 rw [if_neg (by walk_at "o"), List.getElem?_map, List.getD_eq_getElem?_getD, List.getElem?_eq_getElem (by walk_at "o")]
 rfl
theorem lookD_ex {nm : List Nat} : ∀ {ks : List (List Nat)} {ws : List (List Int)}, nm ∈ ks → ks.length = ws.length → ∃ w, w ∈ ws ∧ lookD nm ks (ws.map lsI) = some (lsI w)
 | [], _, h, _ => by cases h
 | _ :: _, [], _, h => by cases h
 | k :: ks, w :: ws, h, hl => by
  rw [List.map_cons]
  unfold lookD
  by_cases q : k = nm
  ·rw [if_pos q]; exact ⟨w, .head _, rfl⟩
  ·rw [if_neg q]
   rcases List.mem_cons.mp h with z | z
   ·exact absurd z.symm q
   ·obtain ⟨u, h1, h2⟩ := lookD_ex z (by simpa using hl)
    exact ⟨u, .tail _ h1, h2⟩
theorem wds_look {nm : List Nat} (h : nm ∈ wK) : ∃ ws, ws ∈ wI ∧ lookD nm wK (wI.map lsI) = some (lsI ws) := lookD_ex h rfl
example : True := by
 k_with "c18_0" => (with_reducible first | exact CH.c0 (by assumption) | exact CH.c1 (by assumption) | exact CH.c2 (by assumption) | exact CH.c3 (by assumption) | exact CH.c4 (by assumption) | fail)
 trivial
local macro_rules | `(tactic| walk_at "hp") => `(tactic| k_extra "c18_0")
inductive WkH (hp : HP) (p n : Nat) (cs : List Int) (sp : Int) (d : Int) (i : Nat) (lc : Loc) (H : HP) : Prop
 | mk (v1 : lc.lookup (S "way") = some (.int d)) (v2 : lc.lookup (S "pen") = some (.ref p)) (bs : List Bool) (sp3 rs3 : Int) (c2 c3 c4 : Option V) (F : CH hp H p n (penO cs sp3 rs3) (some (.lst (bs.map .bool))) c2 c3 c4) (l1 : bs.length = 128) (l2 : chg bs ≤ 2 * i) (u : Sp sp sp3 (2 + 2 * i))
theorem n_1 {n : Nat} (h : n ≤ 9000) : n + 1 ≤ 10000 := Nat.le_trans (Nat.add_le_add_right h 1) (by decide)
theorem i_4 {i : Nat} (h : i < 4) : 2 + 2 * i ≤ 9000 := Nat.le_trans (Nat.add_le_add_left (Nat.mul_le_mul_left 2 (Nat.le_of_lt h)) 2) (by decide)
theorem le_9 {n : Nat} (h : n ≤ 9000) : n ≤ 10000 := Nat.le_trans h (by decide)
theorem Sp.fin20 {a b : Int} {n : Nat} (h : Sp a b n) (hn : n ≤ 20) : b ≤ a + 20 := Int.le_trans h.le (Int.add_le_add_left (Int.ofNat_le.mpr hn) a)
theorem c_law_held (cs : List Int) (sp rs : Int) (hc : cs.length ≤ 48) (h1 : 0 ≤ sp) (h2 : sp ≤ 900000) (hrm : 3 ≤ C.rm) (hnp : ∀ n, (∀ c, n ≤ c → (hp.set p (penO cs sp rs)) c = none) → p < n) (h : ∀ bs sp' rs', bs.length = 128 → chg bs ≤ 8 → 0 ≤ sp' → sp' ≤ sp + 20 → k (.lst (bs.map .bool)) lc (hp.set p (penO cs sp' rs'))) :
  OpCall C (.ref 919) [.ref p, wV] k x lc (hp.set p (penO cs sp rs)) := by
 refine OpCall.fnCD 2 (fn_919 _) rfl (fun n y hy => ?_) (fun n => ?_) (by walk_at "o") fun C' n hC hn => ?_
 ·simp only [List.mem_cons, List.not_mem_nil, or_false] at hy
  rcases hy with rfl | rfl
  ·exact .inl (by kernel_rfl)
  ·refine .inr ⟨by kernel_rfl, ?_⟩
   rw [show cellsFrom n (fd "_law_held" "_law_held" (mi 65) 3 N N N (s "law_pq0578_01" 1482) (r 918) N 0 none).scope.names [] = [(S "more", n + 4), (S "low", n + 3), (S "name", n + 2), (S "held", n + 1), (S "words", n)] from by kernel_rfl]
   kernel_rfl
 ·rw [show cellsFrom n (fd "_law_held" "_law_held" (mi 65) 3 N N N (s "law_pq0578_01" 1482) (r 918) N 0 none).scope.names [] = [(S "more", n + 4), (S "low", n + 3), (S "name", n + 2), (S "held", n + 1), (S "words", n)] from by kernel_rfl]
  show [S "more", S "low", S "name", S "held", S "words"].Nodup
  decide +kernel
 have ec : cellsFrom n (fd "_law_held" "_law_held" (mi 65) 3 N N N (s "law_pq0578_01" 1482) (r 918) N 0 none).scope.names [] = [(S "more", n + 4), (S "low", n + 3), (S "name", n + 2), (S "held", n + 1), (S "words", n)] := by kernel_rfl
 rw [ec] at hC ⊢
 have hpn := hnp n hn
 show SXs C' _ _ _ [(S "pen", .ref p)] ((((((hp.set p (penO cs sp rs)).set n (.cell (some wV))).set (n + 1) (.cell none)).set (n + 2) (.cell none)).set (n + 3) (.cell none)).set (n + 4) (.cell none))
 have F := CH.init hpn (HP.set_get (hp := hp) (a := p) (o := penO cs sp rs))
 have hrm := hC.rm
 replace h : ∀ bs sp' rs', bs.length = 128 → chg bs ≤ 8 → 0 ≤ sp' → sp' ≤ sp + 20 → k (.lst (bs.map .bool)) lc ((hp.set p (penO cs sp rs)).set p (penO cs sp' rs')) := fun bs sp' rs' b1 b2 b3 b4 => by
  rw [HP.set_set]; exact h bs sp' rs' b1 b2 b3 b4
 have s0 : Sp sp sp 0 := ⟨h1, by rw [Int.natCast_zero, Int.add_zero]; exact Int.le_refl _, h2⟩
 generalize ((((((hp.set p (penO cs sp rs)).set n (.cell (some wV))).set (n + 1) (.cell none)).set (n + 2) (.cell none)).set (n + 3) (.cell none)).set (n + 4) (.cell none)) = H at F ⊢
 repeat walk1
 refine c_drawS 9 F.g.fp hc s0 (by decide) (by decide) (by decide) (by walk_at "o") fun d sp1 rs1 d0 d9 s0 => ?_
 replace F := F.setp (pen' := penO cs sp1 rs1)
 generalize H.set p (penO cs sp1 rs1) = H1 at F ⊢
 repeat walk1
 refine OpNewList.mk (by simp [sizeLine_eq]) fun a ha => ?_
 repeat walk1
 refine OpBin.mulL (n := 128) (HP.set_get ..) (by simp) (by simp) (by decide) ?_
 repeat walk1
 refine OpStore.drop ha ?_
 rw [show V.lst (List.replicate 128 [V.bool false]).flatten = .lst ((List.replicate 128 false).map .bool) from rfl]
 walk1
 replace F := F.set1 (some (.lst ((List.replicate 128 false).map .bool)))
 clear ha
 generalize H1.set (n + 1) (.cell (some (.lst ((List.replicate 128 false).map .bool)))) = H2 at F ⊢
 repeat walk1
 ·refine ⟨⟨(rngI 0 128).map .int, tabF fun c => c != 10, fun _ => true, .inr (.inr ⟨0, 128, rfl, (rng_int 0 128).symm, by decide⟩), by decide, fun C2 hp' y h2 lq hy => ?_, ?_⟩⟩
  ·obtain ⟨i, _, rfl⟩ := List.mem_map.mp hy
   repeat walk1
   refine ⟨rfl, rfl, fun _ => ?_⟩
   repeat walk1
   exact ⟨rfl, rfl⟩
  ·rw [tab_map]
   exact ⟨⟨_, F.g.le hn, h _ sp1 rs1 (tab_len _) chg_nl s0.nn (s0.fin20 (by decide))⟩⟩
 ·intro hd1
  repeat walk1
  ·obtain rfl : d = 2 := by simpa using ‹(d == 2) = true›
   refine OpCall.sortedD IsDct.f (by decide +kernel) (by decide +kernel) (by decide +kernel) fun ns hns => ?_
   repeat walk1
   refine c_drawS 12 F.g.fp hc s0 (by decide) (by decide) (by decide) (by walk_at "o") fun e sp2 rs2 e0 e12 t0 => ?_
   replace F := F.setp (pen' := penO cs sp2 rs2)
   generalize H2.set p (penO cs sp2 rs2) = H3 at F ⊢
   have hl : ns.length = 12 := hns.length_eq
   have hi : e.toNat < ns.length := by exact oq6 hl e12
   have hm : ns[e.toNat] ∈ wK := hns.mem_iff.mp (List.getElem_mem hi)
   refine OpSub.lst IsLst.f (y := .str ns[e.toNat]) (by rw [List.length_map]; exact of13 hl) (by unfold at?; rw [if_neg (Int.not_lt.mpr e0)]; simp [hi]) ?_
   generalize ns[e.toNat] = nm at hm ⊢
   walk1
   replace F := F.set2 (some (.str nm))
   generalize H3.set (n + 2) (.cell (some (.str nm))) = H4 at F ⊢
   obtain ⟨ws, hw, hws⟩ := wds_look hm
   walk1
   refine SX.assign ?_ (by unfold swapsWith Env.blockKind Env.kindOf; rw [hC.sc]; kernel_rfl)
   repeat walk1
   refine ⟨⟨(rngI 0 128).map .int, tabF fun c => decide (c ∈ ws), fun _ => true, .inr (.inr ⟨0, 128, rfl, (rng_int 0 128).symm, by decide⟩), by decide, fun C2 hp' y h2 lq hy => ?_, ?_⟩⟩
   ·obtain ⟨i, _, rfl⟩ := List.mem_map.mp hy
    have g0 := lq n _ F.c0
    have g2 := lq (n + 2) _ F.c2
    repeat walk1
    refine ⟨rfl, rfl, fun _ => ?_⟩
    repeat walk1
    refine OpSub.dict IsDct.f (by decide +kernel) hws ?_
    refine OpCmp.inIL ?_
    exact ⟨rfl, rfl⟩
   ·rw [tab_map]
    repeat walk1
    exact ⟨⟨_, (F.set1 _).g.le hn, h _ sp2 rs2 (tab_len _) (chg_words _ hw) t0.nn (t0.fin20 (by decide))⟩⟩
  ·intro hd2
   repeat' walk1
   ·refine c_drawS 4 F.g.fp hc s0 (by decide) (by decide) (by decide) (by walk_at "o") fun e sp2 rs2 e0 e4 t0 => ?_
    replace F := F.setp (pen' := penO cs sp2 rs2)
    generalize H2.set p (penO cs sp2 rs2) = H3 at F ⊢
    repeat walk1
    refine ⟨⟨_, WkH (hp.set p (penO cs sp rs)) p n cs sp d, .inr (.inr ⟨0, 1 + e, rfl, rfl, ?_⟩), WkH.mk rfl rfl _ sp2 rs2 _ _ _ F (by simp) (by decide +kernel) t0, ?_, ?_⟩⟩
    ·have : e = 0 ∨ e = 1 ∨ e = 2 ∨ e = 3 := by exact oj5 e4 e0
     rcases this with rfl | rfl | rfl | rfl <;> decide
    ·clear F
     rintro i y lc' hp' hy ⟨v1, v2, bs, sp3, rs3, c2, c3, c4, F, l1, l2, u0⟩
     have hi : i < 4 := by
      have := (List.getElem?_eq_some_iff.mp hy).1
      rw [List.length_map, List.length_range] at this
      exact ov5 e4 this
     obtain ⟨j, rfl⟩ : ∃ j, y = .int j := by
      obtain ⟨z, hz⟩ := List.mem_map.mp (List.mem_of_getElem? hy)
      exact ⟨_, hz.2.symm⟩
     clear hy h
     have hi4 := i_4 hi
     repeat walk1
     refine SX.assignTup ?_ (by unfold swapsWithSole; kernel_rfl) (by unfold swappedStores Env.blockKind Env.kindOf; rw [hC.sc]; kernel_rfl)
     repeat walk1
     refine c_drawS 128 F.g.fp hc u0 (le_9 hi4) (by decide) (by decide) (by walk_at "o") fun lo sp4 rs4 lo0 lo1 w0 => ?_
     replace F := F.setp (pen' := penO cs sp4 rs4)
     generalize hp'.set p (penO cs sp4 rs4) = H4 at F ⊢
     repeat walk1
     refine OpNewList.fz (by simp [sizeLine_eq]) ?_
     repeat walk1
     refine c_drawS 5 F.g.fp hc w0 (n_1 hi4) (by decide) (by decide) (by walk_at "o") fun mo sp5 rs5 mo0 mo1 x0 => ?_
     replace F := F.setp (pen' := penO cs sp5 rs5)
     generalize H4.set p (penO cs sp5 rs5) = H5 at F ⊢
     obtain ⟨mv, km⟩ : ∃ mv, at? [V.int 0, V.int 1, V.int 2, V.int 5, V.int 40] mo = some (.int mv) := by
      have : mo = 0 ∨ mo = 1 ∨ mo = 2 ∨ mo = 3 ∨ mo = 4 := by exact oz0 mo1 mo0
      rcases this with rfl | rfl | rfl | rfl | rfl <;> exact ⟨_, rfl⟩
     refine OpSub.lst IsLst.f (by simp) km ?_
     clear km
     walk1
     walk1
     walk1
     walk1
     walk1
     replace F := F.set3 (some (.int lo))
     generalize H5.set (n + 3) (.cell (some (.int lo))) = H6 at F ⊢
     walk1
     walk1
     replace F := F.set4 (some (.int mv))
     generalize H6.set (n + 4) (.cell (some (.int mv))) = H7 at F ⊢
     walk1
     refine SX.assign ?_ (by unfold swapsWith Env.blockKind Env.kindOf; rw [hC.sc]; kernel_rfl)
     repeat walk1
     refine ⟨⟨(rngI 0 128).map .int, tabF fun c => bit bs c.toNat || (decide (lo ≤ c) && decide (c ≤ lo + mv)), fun _ => true, .inr (.inr ⟨0, 128, rfl, (rng_int 0 128).symm, by decide⟩), by decide, fun C2 hp2 y h2 lq hy => ?_, ?_⟩⟩
     ·obtain ⟨i2, hi2, rfl⟩ := List.mem_map.mp hy
      have g1 := lq (n + 1) _ F.c1
      have g3 := lq (n + 3) _ F.c3
      have g4 := lq (n + 4) _ F.c4
      repeat walk1
      refine ⟨rfl, rfl, fun _ => ?_⟩
      repeat walk1
      obtain ⟨r1, r2⟩ := rngI_mem hi2
      refine OpSub.lst IsLst.f (by simp; exact oh2 l1) (at_bool (bs := bs) r1 (lt_129 l1 r2)) ?_
      clear hi2 hy
      cases hq : bit bs i2.toNat with
      | true =>
       repeat' walk1
       exact ⟨rfl, by show V.bool true = .bool (bit bs i2.toNat || _); rw [hq]; rfl⟩
      | false =>
       repeat' walk1
       exact ⟨⟨rfl, by show V.bool _ = .bool (bit bs i2.toNat || _); rw [hq]; rfl⟩⟩
     ·rw [tab_map]
      repeat walk1
      exact WkH.mk (by walk_at "lk") (by walk_at "lk") _ sp5 rs5 _ _ _ (F.set1 _) (tab_len _) (by have := chg_or bs lo (lo + mv); exact oz5 this l2) x0
    ·rintro lc' hp' ⟨v1, v2, bs, sp3, rs3, c2, c3, c4, F, l1, l2, u0⟩
     have hl : ((List.range ((1 + e) - 0).toNat).map fun i => V.int (0 + (i : Nat))).length ≤ 4 := by
      rw [List.length_map, List.length_range]; exact ol5 e4
     generalize ((List.range ((1 + e) - 0).toNat).map fun i => V.int (0 + (i : Nat))).length = N at *
     repeat' walk1
     ·refine ⟨⟨bs.map .bool, notF, fun _ => true, .inl rfl, by rw [List.length_map]; exact ol3 l1, fun C2 hp2 y h2 lq hy => ?_, ?_⟩⟩
      ·obtain ⟨b, _, rfl⟩ := List.mem_map.mp hy
       repeat walk1
       refine ⟨rfl, rfl, fun _ => ?_⟩
       repeat walk1
       exact ⟨rfl, rfl⟩
      ·rw [not_map]
       exact ⟨⟨_, F.g.le hn, h _ sp3 rs3 (by rw [List.length_map]; exact l1) (by have := chg_not bs l1; exact oc6 this l2 hl) u0.nn (u0.fin20 (Nat.le_trans (Nat.add_le_add_left (Nat.mul_le_mul_left 2 hl) 2) (by decide)))⟩⟩
     ·exact ⟨⟨_, F.g.le hn, h _ sp3 rs3 l1 (Nat.le_trans l2 (Nat.mul_le_mul_left 2 hl)) u0.nn (u0.fin20 (Nat.le_trans (Nat.add_le_add_left (Nat.mul_le_mul_left 2 hl) 2) (by decide)))⟩⟩
   ·rename_i q1 q2
    have q2 : d = 8 := by simpa using q2
    subst q2
    exact absurd rfl q1
   ·exact ⟨⟨_, F.g.le hn, h _ sp1 rs1 (by simp) (by decide +kernel) s0.nn (s0.fin20 (by decide))⟩⟩
end
end
example : True ∧ True := by first | (walk1; done) | exact ⟨trivial, trivial⟩
section
noncomputable def U (l : List (Int × Int)) (i : Int) : Prop := ∃ p ∈ l, p.1 ≤ i ∧ i ≤ p.2
structure WS (l : List (Int × Int)) : Prop where
 le : ∀ p ∈ l, p.1 ≤ p.2
 pw : l.Pairwise fun a b => a.2 + 1 < b.1
theorem U_nil (i : Int) : U [] i ↔ False := ⟨fun ⟨_, h, _⟩ => (by cases h), False.elim⟩
theorem U_cons (p : Int × Int) (l : List (Int × Int)) (i : Int) : U (p :: l) i ↔ (p.1 ≤ i ∧ i ≤ p.2) ∨ U l i := by
 unfold U; simp
theorem U_app (l m : List (Int × Int)) (i : Int) : U (l ++ m) i ↔ U l i ∨ U m i := by
 unfold U
 simp only [List.mem_append]
 constructor
 ·rintro ⟨p, h | h, q⟩
  ·exact .inl ⟨p, h, q⟩
  ·exact .inr ⟨p, h, q⟩
 ·rintro (⟨p, h, q⟩ | ⟨p, h, q⟩)
  ·exact ⟨p, .inl h, q⟩
  ·exact ⟨p, .inr h, q⟩
theorem U_one (p : Int × Int) (i : Int) : U [p] i ↔ p.1 ≤ i ∧ i ≤ p.2 := by rw [U_cons, U_nil, or_false]
theorem WS.nil : WS [] := ⟨fun _ h => (by cases h), .nil⟩
theorem WS.app {l : List (Int × Int)} {p : Int × Int} (h : WS l) (h1 : p.1 ≤ p.2) (h2 : ∀ a ∈ l, a.2 + 1 < p.1) : WS (l ++ [p]) :=
 ⟨fun q hq => by
  rcases List.mem_append.mp hq with hq | hq
  ·exact h.le q hq
  ·obtain rfl := List.mem_singleton.mp hq; exact h1, List.pairwise_append.mpr ⟨h.pw, List.pairwise_singleton .., fun a ha b hb => by
  obtain rfl := List.mem_singleton.mp hb; exact h2 a ha⟩⟩
theorem WS.init {l : List (Int × Int)} {p : Int × Int} (h : WS (l ++ [p])) : WS l ∧ p.1 ≤ p.2 ∧ ∀ a ∈ l, a.2 + 1 < p.1 := by
 obtain ⟨h1, h2, h3⟩ := List.pairwise_append.mp h.pw
 exact ⟨⟨fun q hq => h.le q (List.mem_append_left _ hq), h1⟩, h.le p (by simp), fun a ha => h3 a ha p (.head _)⟩
theorem WS.uniq : ∀ {l m : List (Int × Int)}, WS l → WS m → (∀ i, U l i ↔ U m i) → l = m
 | [], [], _, _, _ => rfl
 | [], q :: m, _, h2, h => by
  have := (h q.1).mpr ((U_cons ..).mpr (.inl ⟨Int.le_refl _, h2.le q (.head _)⟩))
  exact ((U_nil _).mp this).elim
 | p :: l, [], h1, _, h => by
  have := (h p.1).mp ((U_cons ..).mpr (.inl ⟨Int.le_refl _, h1.le p (.head _)⟩))
  exact ((U_nil _).mp this).elim
 | p :: l, q :: m, h1, h2, h => by
  have p0 := h1.le p (.head _)
  have q0 := h2.le q (.head _)
  obtain ⟨p1, pr⟩ := List.pairwise_cons.mp h1.pw
  obtain ⟨q1, qr⟩ := List.pairwise_cons.mp h2.pw
  have wl : WS l := ⟨fun a ha => h1.le a (.tail _ ha), pr⟩
  have wm : WS m := ⟨fun a ha => h2.le a (.tail _ ha), qr⟩
  have hl : ∀ i, U l i → p.2 + 1 < i := fun i ⟨a, ha, b, _⟩ => by have := p1 a ha; exact of5 this b
  have hm : ∀ i, U m i → q.2 + 1 < i := fun i ⟨a, ha, b, _⟩ => by have := q1 a ha; exact of5 this b
  have key : ∀ i, ((p.1 ≤ i ∧ i ≤ p.2) ∨ U l i) ↔ ((q.1 ≤ i ∧ i ≤ q.2) ∨ U m i) := fun i => by rw [← U_cons, ← U_cons]; exact h i
  have a1 := (key p.1).mp (.inl ⟨by exact oc9, p0⟩)
  have a2 := (key q.1).mpr (.inl ⟨by exact oc9, q0⟩)
  have e1 : p.1 = q.1 := by
   have b1 : q.1 ≤ p.1 := by
    rcases a1 with a | a
    ·exact a.1
    ·have := hm _ a; exact ok10 this q0
   have b2 : p.1 ≤ q.1 := by
    rcases a2 with a | a
    ·exact a.1
    ·have := hl _ a; exact ou10 p0 this
   exact og10 b2 b1
  have a3 := fun z : p.2 < q.2 => (key (p.2 + 1)).mpr (.inl ⟨by exact oq11 e1 p0, by exact os6 z⟩)
  have a4 := fun z : q.2 < p.2 => (key (q.2 + 1)).mp (.inl ⟨by exact ov11 e1 q0, by exact os6 z⟩)
  have e2 : p.2 = q.2 := by
   rcases Int.lt_trichotomy p.2 q.2 with z | z | z
   ·rcases a3 z with a | a
    ·exact oj14 a
    ·have := hl _ a; exact of14 this
   ·exact z
   ·rcases a4 z with a | a
    ·exact oi14 a
    ·have := hm _ a; exact oe14 this
  have e : p = q := Prod.ext e1 e2
  subst e
  rw [WS.uniq wl wm fun i => ⟨fun a => by
   rcases (key i).mp (.inr a) with b | b
   ·have := hl _ a; omega
   ·exact b, fun a => by
   rcases (key i).mpr (.inr a) with b | b
   ·have := hm _ a; omega
   ·exact b⟩]
theorem lastP_app (l : List (Int × Int)) (p : Int × Int) : lastP (l ++ [p]) = p := by simp [lastP]
theorem set_app (l : List (Int × Int)) (p q : Int × Int) : (l ++ [p]).set ((l ++ [p]).length - 1) q = l ++ [q] := by simp
theorem snoc_cases {α : Type} (l : List α) : l = [] ∨ ∃ m a, l = m ++ [a] := by
 rcases List.eq_nil_or_concat l with h | ⟨m, a, h⟩
 ·exact .inl h
 ·exact .inr ⟨m, a, by rw [h, List.concat_eq_append]⟩
theorem mrgStep_ok {acc : List (Int × Int)} {q : Int × Int} (h : WS acc) (hq : q.1 ≤ q.2) (hl : ∀ p ∈ acc, p.1 ≤ q.1) :
  WS (mrgStep acc q) ∧ (∀ i, U (mrgStep acc q) i ↔ U acc i ∨ U [q] i) ∧ ∀ b, q.1 ≤ b → (∀ p ∈ mrgStep acc q, p.1 ≤ b) := by
 rcases snoc_cases acc with rfl | ⟨l, p, rfl⟩
 ·have e : mrgStep [] q = [q] := rfl
  rw [e]
  refine ⟨WS.nil.app hq (fun _ h => by cases h), fun i => by rw [U_nil, false_or], fun b hb p hp => ?_⟩
  obtain rfl := List.mem_singleton.mp hp; exact hb
 ·obtain ⟨w, p0, w2⟩ := h.init
  have pq := hl p (by simp)
  have e0 : (l ++ [p]).isEmpty = false := by cases l <;> rfl
  unfold mrgStep
  rw [lastP_app, e0, set_app]
  simp only [Bool.not_false, Bool.true_and, Bool.and_true, decide_eq_true_eq]
  split
  ·split
   ·refine ⟨w.app (by dsimp only; exact oe12 hq pq) w2, fun i => ?_, fun b hb a ha => ?_⟩
    ·rw [U_app, U_app, U_one, U_one, U_one, or_assoc]
     dsimp only
     constructor
     ·rintro (a | a)
      ·exact .inl a
      ·refine .inr ?_; omega
     ·rintro (a | a)
      ·exact .inl a
      ·refine .inr ?_; omega
    ·rcases List.mem_append.mp ha with ha | ha
     ·have := hl a (List.mem_append_left _ ha); exact oj1 this hb
     ·obtain rfl := List.mem_singleton.mp ha
      dsimp only; exact oj1 pq hb
   ·refine ⟨h, fun i => ?_, fun b hb a ha => by have := hl a ha; exact oj1 this hb⟩
    rw [U_app, U_one, U_one, or_assoc]
    constructor
    ·rintro (a | a)
     ·exact .inl a
     ·exact .inr (.inl a)
    ·rintro (a | a | a)
     ·exact .inl a
     ·exact .inr a
     ·refine .inr ?_; omega
  ·refine ⟨h.app hq fun a ha => ?_, fun i => by rw [U_app (l ++ [p])], fun b hb a ha => ?_⟩
   ·rcases List.mem_append.mp ha with ha | ha
    ·have := w2 a ha; omega
    ·obtain rfl := List.mem_singleton.mp ha
     omega
   ·rcases List.mem_append.mp ha with ha | ha
    ·have := hl a ha; exact oj1 this hb
    ·obtain rfl := List.mem_singleton.mp ha
     exact hb
theorem mrg_go : ∀ (qs acc : List (Int × Int)), WS acc → (∀ q ∈ qs, q.1 ≤ q.2) → qs.Pairwise (fun a b => a.1 ≤ b.1) → (∀ p ∈ acc, ∀ q ∈ qs, p.1 ≤ q.1) → WS (qs.foldl mrgStep acc) ∧ ∀ i, U (qs.foldl mrgStep acc) i ↔ U acc i ∨ U qs i
 | [], acc, h, _, _, _ => ⟨h, fun i => by rw [List.foldl_nil, U_nil, or_false]⟩
 | q :: qs, acc, h, h1, h2, h3 => by
  obtain ⟨s1, s2, s3⟩ := mrgStep_ok h (h1 q (.head _)) fun p hp => h3 p hp q (.head _)
  obtain ⟨p1, p2⟩ := List.pairwise_cons.mp h2
  obtain ⟨g1, g2⟩ := mrg_go qs (mrgStep acc q) s1 (fun a ha => h1 a (.tail _ ha)) p2 fun p hp a ha => s3 _ (p1 a ha) p hp
  refine ⟨g1, fun i => ?_⟩
  rw [List.foldl_cons, g2, s2, U_cons q qs, U_one, or_assoc]
theorem mrg_ok {ps qs : List (Int × Int)} (h1 : qs.Perm (keptP ps)) (h2 : qs.Pairwise (fun a b => ltP b a = false)) : WS (mrg qs) ∧ ∀ i, U (mrg qs) i ↔ 0 ≤ i ∧ i ≤ 127 ∧ U ps i := by
 have hk : ∀ q ∈ keptP ps, q.1 ≤ q.2 := fun q hq => by
  unfold keptP at hq
  obtain ⟨p, _, hp⟩ := List.mem_filterMap.mp hq
  split at hp
  ·cases hp; assumption
  ·cases hp
 obtain ⟨g1, g2⟩ := mrg_go qs [] WS.nil (fun q hq => hk q (h1.mem_iff.mp hq)) (h2.imp fun {a b} z => by
  unfold ltP at z
  simp only [Bool.or_eq_false_iff, decide_eq_false_iff_not] at z
  omega) (fun _ h => by cases h)
 refine ⟨g1, fun i => ?_⟩
 show U (qs.foldl mrgStep []) i ↔ _
 rw [g2, U_nil, false_or]
 constructor
 ·rintro ⟨q, hq, a, b⟩
  have hq := h1.mem_iff.mp hq
  unfold keptP at hq
  obtain ⟨p, hp1, hp⟩ := List.mem_filterMap.mp hq
  split at hp
  ·cases hp
   dsimp only at a b
   exact ⟨by exact om6 a, by exact om5 b, p, hp1, by exact oa7 a, by exact oy3 b⟩
  ·cases hp
 ·rintro ⟨a, b, p, hp, c, d⟩
  refine ⟨(max p.1 0, min p.2 127), h1.mem_iff.mpr (List.mem_filterMap.mpr ⟨p, hp, ?_⟩), by dsimp only; exact oi8 a c, by dsimp only; exact og8 d b⟩
  rw [if_pos (by exact on6 b a d c)]
theorem cmp_go : ∀ (sp : List (Int × Int)) (s : Int) (acc : List (Int × Int)), WS acc → WS sp → (∀ p ∈ sp, 0 ≤ p.1 ∧ p.2 ≤ 127) → 0 ≤ s → s ≤ 128 → (∀ p ∈ sp, s ≤ p.1) → (∀ a ∈ acc, a.2 + 1 < s) →
  (acc ≠ [] ∨ True) → WS (if decide ((sp.foldl cmpStep (s, acc)).1 ≤ 127) = true then (sp.foldl cmpStep (s, acc)).2 ++ [((sp.foldl cmpStep (s, acc)).1, 127)] else (sp.foldl cmpStep (s, acc)).2) ∧
  ∀ i, U (if decide ((sp.foldl cmpStep (s, acc)).1 ≤ 127) = true then (sp.foldl cmpStep (s, acc)).2 ++ [((sp.foldl cmpStep (s, acc)).1, 127)] else (sp.foldl cmpStep (s, acc)).2) i ↔ U acc i ∨ (s ≤ i ∧ i ≤ 127 ∧ ¬ U sp i)
 | [], s, acc, h, _, _, h0, h1, _, h3, _ => by
  rw [List.foldl_nil]
  dsimp only
  by_cases q : s ≤ 127
  ·rw [if_pos (decide_eq_true q)]
   refine ⟨h.app q h3, fun i => ?_⟩
   rw [U_app, U_one, U_nil]
   simp
  ·rw [if_neg (by rw [decide_eq_true_eq]; exact q)]
   refine ⟨h, fun i => ?_⟩
   constructor
   ·exact .inl
   ·rintro (a | a)
    ·exact a
    ·omega
 | p :: sp, s, acc, h, hs, hb, h0, h1, h2, h3, _ => by
  obtain ⟨p1, p2⟩ := List.pairwise_cons.mp hs.pw
  have w : WS sp := ⟨fun a ha => hs.le a (.tail _ ha), p2⟩
  have b := hb p (.head _)
  have l := hs.le p (.head _)
  have s1 := h2 p (.head _)
  rw [List.foldl_cons]
  have hn : ∀ i, U sp i → p.2 + 1 < i := fun i ⟨a, ha, c, _⟩ => by have := p1 a ha; exact op11 c this
  by_cases q : s < p.1
  ·have e : cmpStep (s, acc) p = (p.2 + 1, acc ++ [(s, p.1 - 1)]) := by unfold cmpStep; simp only [decide_eq_true_eq]; rw [if_pos q]
   rw [e]
   obtain ⟨g1, g2⟩ := cmp_go sp (p.2 + 1) (acc ++ [(s, p.1 - 1)]) (h.app (by dsimp only; exact ob6 q) h3) w (fun a ha => hb a (.tail _ ha)) (by exact ow9 h0 q l) (by exact om9 b) (fun a ha => by have := p1 a ha; exact ox5 this) (fun a ha => by
    rcases List.mem_append.mp ha with ha | ha
    ·have := h3 a ha; exact on10 this q l
    ·obtain rfl := List.mem_singleton.mp ha; dsimp only; exact od13 l) (.inr trivial)
   refine ⟨g1, fun i => ?_⟩
   rw [g2, U_app, U_one, U_cons]
   have hn := hn i
   constructor
   ·rintro ((a | a) | a)
    ·exact .inl a
    ·refine .inr ⟨by omega, by omega, ?_⟩
     rintro (z | z)
     ·omega
     ·have := hn z; omega
    ·refine .inr ⟨by omega, a.2.1, ?_⟩
     rintro (z | z)
     ·omega
     ·exact a.2.2 z
   ·rintro (a | ⟨a, b, c⟩)
    ·exact .inl (.inl a)
    ·by_cases z : i < p.1
     ·exact .inl (.inr ⟨a, by dsimp only; exact ob6 z⟩)
     ·exact .inr ⟨by have : ¬ (p.1 ≤ i ∧ i ≤ p.2) := fun y => c (.inl y); exact oi11 this z, b, fun y => c (.inr y)⟩
  ·have e : cmpStep (s, acc) p = (p.2 + 1, acc) := by unfold cmpStep; simp only [decide_eq_true_eq]; rw [if_neg q]
   rw [e]
   obtain ⟨g1, g2⟩ := cmp_go sp (p.2 + 1) acc h w (fun a ha => hb a (.tail _ ha)) (by exact os9 s1 h0 l) (by exact om9 b) (fun a ha => by have := p1 a ha; exact ox5 this) (fun a ha => by have := h3 a ha; exact op10 l s1 this) (.inr trivial)
   refine ⟨g1, fun i => ?_⟩
   rw [g2, U_cons]
   have hn := hn i
   constructor
   ·rintro (a | a)
    ·exact .inl a
    ·refine .inr ⟨by omega, a.2.1, ?_⟩
     rintro (z | z)
     ·omega
     ·exact a.2.2 z
   ·rintro (a | ⟨a, b, c⟩)
    ·exact .inl a
    ·exact .inr ⟨by have : ¬ (p.1 ≤ i ∧ i ≤ p.2) := fun y => c (.inl y); exact om10 this q a, b, fun y => c (.inr y)⟩
theorem cmpl_ok {sp : List (Int × Int)} (h : WS sp) (hb : ∀ i, U sp i → 0 ≤ i ∧ i ≤ 127) : WS (cmpl sp) ∧ ∀ i, U (cmpl sp) i ↔ 0 ≤ i ∧ i ≤ 127 ∧ ¬ U sp i := by
 have hb2 : ∀ p ∈ sp, 0 ≤ p.1 ∧ p.2 ≤ 127 := fun p hp =>
  ⟨(hb p.1 ⟨p, hp, Int.le_refl _, h.le p hp⟩).1, (hb p.2 ⟨p, hp, h.le p hp, Int.le_refl _⟩).2⟩
 obtain ⟨g1, g2⟩ := cmp_go sp 0 [] WS.nil h hb2 (by omega) (by omega) (fun p hp => (hb2 p hp).1) (fun _ h => by cases h) (.inr trivial)
 refine ⟨g1, fun i => ?_⟩
 unfold cmpl
 rw [g2, U_nil, false_or]
end
section
noncomputable def chN (bs : List Bool) : Nat → Nat
 | 0 => 0
 | n + 1 => chN bs n + if bit bs n != bit bs (n + 1) then 1 else 0
theorem chN_chg (bs : List Bool) : ∀ n, chN bs n = ((List.range n).filter fun i => bit bs i != bit bs (i + 1)).length
 | 0 => rfl
 | n + 1 => by
  rw [List.range_succ, List.filter_append, List.length_append, ← chN_chg bs n]
  show chN bs n + _ = chN bs n + _
  congr 1
  rw [List.filter_cons]
  split <;> rfl
structure SpI (bs : List Bool) (n : Nat) (acc : List (Int × Int)) : Prop where
 ws : WS acc
 u : ∀ i, U acc i ↔ 0 ≤ i ∧ i < n ∧ bit bs i.toNat = true
 top : ∀ p ∈ acc, p.2 < n
 last : ∀ m, n = m + 1 → bit bs m = true → ∃ l a, acc = l ++ [(a, (m : Int))]
 len : ∀ m, n = m + 1 → 2 * acc.length ≤ chN bs m + 1 + if bit bs m then 1 else 0
theorem spn_ok (bs : List Bool) : ∀ n, SpI bs n (spnN bs n)
 | 0 => ⟨WS.nil, fun i => by rw [show spnN bs 0 = [] from rfl, U_nil]; exact ⟨False.elim, fun ⟨a, b, _⟩ => by omega⟩, fun _ h => (by cases h), fun _ h => (by cases h), fun _ h => (by cases h)⟩
 | n + 1 => by
  obtain ⟨ws, u, top, last, len⟩ := spn_ok bs n
  have e : spnN bs (n + 1) = spnS (spnN bs n) n (bit bs n) := rfl
  rw [e]
  generalize spnN bs n = acc at *
  have hstep : ∀ i : Int, (0 ≤ i ∧ i < (n + 1 : Nat) ∧ bit bs i.toNat = true) ↔ (0 ≤ i ∧ i < n ∧ bit bs i.toNat = true) ∨ (i = n ∧ bit bs n = true) := fun i => by
   constructor
   ·rintro ⟨a, b, c⟩
    by_cases q : i = n
    ·subst q; exact .inr ⟨rfl, c⟩
    ·exact .inl ⟨a, by exact ou12 q b, c⟩
   ·rintro (⟨a, b, c⟩ | ⟨rfl, c⟩)
    ·exact ⟨a, by exact ok5 b, c⟩
    ·exact ⟨by exact od5, by exact oy11, c⟩
  unfold spnS
  by_cases hb : bit bs n = true
  ·rw [hb]
   simp only [Bool.true_and, Bool.and_true]
   have hc : (!acc.isEmpty && (lastP acc).2 == (n : Int) - 1) = true ↔ ∃ m, n = m + 1 ∧ bit bs m = true := by
    constructor
    ·intro q
     rcases snoc_cases acc with rfl | ⟨l, p, rfl⟩
     ·cases q
     ·rw [lastP_app] at q
      have q2 : p.2 = (n : Int) - 1 := by simpa using (Bool.and_eq_true_iff.mp q).2
      have p0 := ws.init.2.1
      have := (u p.2).mp ⟨p, by simp, p0, Int.le_refl _⟩
      exact ⟨n - 1, by omega, by rw [show p.2.toNat = n - 1 by exact of2 q2] at this; exact this.2.2⟩
    ·rintro ⟨m, rfl, hm⟩
     obtain ⟨l, a, rfl⟩ := last m rfl hm
     rw [lastP_app]
     cases l <;> simp
   by_cases q : ∃ m, n = m + 1 ∧ bit bs m = true
   ·rw [if_pos (hc.mpr q)]
    obtain ⟨m, rfl, hm⟩ := q
    obtain ⟨l, a, rfl⟩ := last m rfl hm
    obtain ⟨w, p0, w2⟩ := ws.init
    rw [lastP_app, set_app]
    dsimp only at p0 w2 ⊢
    refine ⟨w.app (by dsimp only; exact oq13 p0) w2, fun i => ?_, fun p hp => ?_, fun m' e _ => ?_, fun m' e => ?_⟩
    ·rw [hstep, ← u, U_app, U_app, U_one, U_one]
     dsimp only
     constructor
     ·rintro (a | a)
      ·exact .inl (.inl a)
      ·by_cases z : i = ((m + 1 : Nat) : Int)
       ·exact .inr ⟨z, hb⟩
       ·exact .inl (.inr (by exact ot11 a z))
     ·rintro ((a | a) | ⟨a, _⟩)
      ·exact .inl a
      ·exact .inr (by exact ou11 a)
      ·exact .inr (by exact og12 a p0)
    ·rcases List.mem_append.mp hp with hp | hp
     ·have := top p (List.mem_append_left _ hp); exact oj13 this
     ·obtain rfl := List.mem_singleton.mp hp; dsimp only; exact oc14
    ·obtain rfl : m' = m + 1 := by exact op3 e
     exact ⟨l, a, rfl⟩
    ·obtain rfl : m' = m + 1 := by exact op3 e
     have := len m rfl
     rw [hm] at this
     unfold chN
     rw [hm, hb]
     simp at this ⊢
     exact oj10 this
   ·rw [if_neg fun z => q (hc.mp z), if_pos trivial]
    refine ⟨ws.app (Int.le_refl _) fun p hp => ?_, fun i => ?_, fun p hp => ?_, fun m e _ => ?_, fun m e => ?_⟩
    ·have h1 := top p hp
     have h2 := ws.le p hp
     by_cases z : p.2 + 1 = n
     ·refine absurd ⟨p.2.toNat, ?_, ?_⟩ q
      ·have := (u p.2).mp ⟨p, hp, h2, Int.le_refl _⟩; omega
      ·exact ((u p.2).mp ⟨p, hp, h2, Int.le_refl _⟩).2.2
     ·dsimp only; exact ov12 z h1
    ·rw [hstep, ← u, U_app, U_one]
     dsimp only
     constructor
     ·rintro (a | a)
      ·exact .inl a
      ·exact .inr ⟨by exact ob13 a, hb⟩
     ·rintro (a | ⟨a, _⟩)
      ·exact .inl a
      ·exact .inr (by exact on13 a)
    ·rcases List.mem_append.mp hp with hp | hp
     ·have := top p hp; exact ok5 this
     ·obtain rfl := List.mem_singleton.mp hp; dsimp only; exact oy11
    ·obtain rfl : n = m := by exact ow0 e
     exact ⟨acc, n, rfl⟩
    ·obtain rfl : n = m := by exact ow0 e
     rw [hb, List.length_append]
     cases n with
     | zero =>
      have : acc = [] := by
       cases acc with
       | nil => rfl
       | cons p r => have := (u p.1).mp ⟨p, .head _, Int.le_refl _, ws.le p (.head _)⟩; omega
      subst this
      simp [chN]
     | succ k =>
      have := len k rfl
      have hk : bit bs k = false := by
       cases z : bit bs k
       ·rfl
       ·exact absurd ⟨k, rfl, z⟩ q
      rw [hk] at this
      unfold chN
      rw [hk, hb]
      simp at this ⊢
      exact od9 this
  ·have hb : bit bs n = false := by simpa using hb
   rw [hb]
   simp only [Bool.false_and, Bool.false_eq_true, if_false]
   refine ⟨ws, fun i => by rw [hstep, hb, u]; simp, fun p hp => by have := top p hp; exact ok5 this, fun m e z => ?_, fun m e => ?_⟩
   ·obtain rfl : n = m := by exact ow0 e
    rw [hb] at z; cases z
   ·obtain rfl : n = m := by exact ow0 e
    rw [hb]
    cases n with
    | zero =>
     have : acc = [] := by
      cases acc with
      | nil => rfl
      | cons p r => have := (u p.1).mp ⟨p, .head _, Int.le_refl _, ws.le p (.head _)⟩; omega
     subst this
     simp [chN]
    | succ k =>
     have := len k rfl
     unfold chN
     rw [hb]
     cases z : bit bs k <;> rw [z] at this <;> simp at this ⊢ <;> omega
theorem sps_ws (bs : List Bool) : WS (spsP bs) := (spn_ok bs 128).ws
theorem sps_u (bs : List Bool) (i : Int) : U (spsP bs) i ↔ 0 ≤ i ∧ i ≤ 127 ∧ bit bs i.toNat = true := by
 rw [show spsP bs = spnN bs 128 from rfl, (spn_ok bs 128).u]
 constructor <;> rintro ⟨a, b, c⟩ <;> exact ⟨a, by omega, c⟩
theorem sps_len (bs : List Bool) : 2 * (spsP bs).length ≤ chg bs + 2 := by
 have h := (spn_ok bs 128).len 127 rfl
 have e : chN bs 127 = chg bs := chN_chg bs 127
 rw [e] at h
 have h : 2 * (spsP bs).length ≤ chg bs + 1 + if bit bs 127 then 1 else 0 := h
 split at h <;> omega
theorem sps_inb (bs : List Bool) : InB (spsP bs) := fun p hp => by
 have h := (sps_ws bs).le p hp
 have h1 := (sps_u bs p.1).mp ⟨p, hp, Int.le_refl _, h⟩
 have h2 := (sps_u bs p.2).mp ⟨p, hp, h, Int.le_refl _⟩
 omega
theorem sps_uniq {bs : List Bool} {l : List (Int × Int)} (h : WS l) (hu : ∀ i, U l i ↔ 0 ≤ i ∧ i ≤ 127 ∧ bit bs i.toNat = true) : l = spsP bs :=
 WS.uniq h (sps_ws bs) fun i => (hu i).trans (sps_u bs i).symm
theorem inn_shC : ∀ c : Fin 128, innC c.val = shC c.val := by decide +kernel
theorem one_shS : ∀ c : Fin 128, shS c.val = oneC (c.val : Nat) := by decide +kernel
theorem told_tex : ∀ (sp : List (Int × Int)) (acc : List (List Nat)), InB sp → (sp.foldl toldS acc).flatten = sp.foldl texS acc.flatten
 | [], acc, _ => rfl
 | p :: sp, acc, h => by
  rw [List.foldl_cons, List.foldl_cons, told_tex sp _ fun q hq => h q (.tail _ hq)]
  congr 1
  obtain ⟨h1, h2, h3, h4⟩ := h p (.head _)
  have e1 := inn_shC ⟨p.1.toNat, by exact ob0 h2⟩
  have e2 := inn_shC ⟨p.2.toNat, by exact ob0 h4⟩
  dsimp only at e1 e2
  unfold toldS texS
  rw [e1, e2]
  dsimp only
  split <;> split <;> simp [L]
theorem size_ge : ∀ (sp : List (Int × Int)) (t : Int), (∀ p ∈ sp, p.1 ≤ p.2) → t + sp.length ≤ sp.foldl sizeS t
 | [], t, _ => by simp
 | p :: sp, t, h => by
  have h1 := h p (.head _)
  have := size_ge sp (sizeS t p) fun q hq => h q (.tail _ hq)
  rw [List.foldl_cons, List.length_cons]
  unfold sizeS at this ⊢
  push_cast
  exact oo11 h1 this
theorem show_lsh {sp : List (Int × Int)} (h : WS sp) (hb : InB sp) : showP sp = lshP sp := by
 unfold showP lshP
 cases sp with
 | nil => decide +kernel
 | cons p r =>
  rw [if_neg (show ¬ decide (p :: r = []) = true by simp)]
  by_cases q : decide (p :: r = [(0, 9), (11, 127)]) = true
  ·rw [if_pos q, if_pos q]
  ·rw [if_neg q, if_neg q]
   have p0 := h.le p (.head _)
   obtain ⟨h1, h2, h3, h4⟩ := hb p (.head _)
   have hs : sizeP (p :: r) ≥ (0 + p.2 - p.1 + 1) + r.length := size_ge r (sizeS 0 p) fun q hq => h.le q (.tail _ hq)
   by_cases z : r = [] ∧ p.1 = p.2
   ·obtain ⟨rfl, e⟩ := z
    have e1 : (sizeP [p] == 1) = true := by
     have : sizeP [p] = 0 + p.2 - p.1 + 1 := rfl
     rw [this, beq_iff_eq]; exact oq9 e
    have e2 : ((((List.map prV [p]).length : Int) == 1) && ((([p].headD (0, 0)).1 == ([p].headD (0, 0)).2) && true)) = true := by
     show (true && ((p.1 == p.2) && true)) = true
     rw [e]; simp
    rw [if_pos e1, if_pos e2]
    show shS p.1.toNat = oneC p.1
    have := one_shS ⟨p.1.toNat, by exact oa8 e h4⟩
    rw [show ((p.1.toNat : Nat) : Int) = p.1 by exact oh6 e h3] at this
    exact this
   ·have e1 : ¬ (sizeP (p :: r) == 1) = true := fun y => by
     have y : sizeP (p :: r) = 1 := by simpa using y
     exact z ⟨List.length_eq_zero_iff.mp (by exact oz9 p0 y hs), by exact ob10 y hs p0⟩
    have e2 : ¬ ((((List.map prV (p :: r)).length : Int) == 1) && ((((p :: r).headD (0, 0)).1 == ((p :: r).headD (0, 0)).2) && true)) = true := fun y => by
     obtain ⟨y1, y2⟩ := Bool.and_eq_true_iff.mp y
     rw [List.length_map, List.length_cons] at y1
     have y1 : ((r.length + 1 : Nat) : Int) = 1 := by simpa using y1
     have y2 : p.1 = p.2 := by simpa using y2
     exact z ⟨List.length_eq_zero_iff.mp (by exact oc10 y1), y2⟩
    rw [if_neg e1, if_neg e2]
    unfold toldP
    rw [if_neg (by simp), told_tex _ _ hb]
    rfl
end
section
theorem hexd_oct : ∀ a : Fin 8, hexd a.val ∈ octS ∧ I16.hexN (hexd a.val) = (a.val : Int) ∧ plainE (hexd a.val) = none := by decide +kernel
theorem hexd_hex : ∀ a : Fin 16, hexd a.val ∈ hexS ∧ I16.hexN (hexd a.val) = (a.val : Int) := by decide +kernel
theorem hexu_hex : ∀ a : Fin 16, hexu a.val ∈ hexS ∧ I16.hexN (hexu a.val) = (a.val : Int) := by decide +kernel
theorem esc_oct {n : Nat} (hn : n < 256) (rest : List Nat) : escP (hexd (n / 64) :: hexd (n / 8 % 8) :: hexd (n % 8) :: rest) = ([n], rest) := by
 obtain ⟨a1, a2, a3⟩ := hexd_oct ⟨n / 64, by exact oq4 hn⟩
 obtain ⟨b1, b2, _⟩ := hexd_oct ⟨n / 8 % 8, by exact oc1⟩
 obtain ⟨c1, c2, _⟩ := hexd_oct ⟨n % 8, by exact oi0⟩
 dsimp only at a1 a2 a3 b1 b2 c1 c2
 rw [escP_cons, a3]
 dsimp only
 rw [if_pos a1]
 have e : codedP octS 8 3 0 (hexd (n / 64) :: hexd (n / 8 % 8) :: hexd (n % 8) :: rest) = ((n : Int), rest) := by
  unfold codedP
  rw [if_pos a1]
  unfold codedP
  rw [if_pos b1]
  unfold codedP
  rw [if_pos c1]
  unfold codedP
  rw [a2, b2, c2]
  congr 1
  exact oa3
 rw [e]
 rfl
theorem esc_x {n a b : Nat} (hn : n < 256) (ha : a ∈ hexS ∧ I16.hexN a = ((n / 16 : Nat) : Int)) (hb : b ∈ hexS ∧ I16.hexN b = ((n % 16 : Nat) : Int)) (rest : List Nat) : escP (120 :: a :: b :: rest) = ([n], rest) := by
 rw [escP_cons, show plainE 120 = none from rfl]
 dsimp only
 rw [if_neg (by decide), if_pos ⟨rfl, ha.1⟩]
 have e : codedP hexS 16 2 0 (a :: b :: rest) = ((n : Int), rest) := by
  unfold codedP
  rw [if_pos ha.1]
  unfold codedP
  rw [if_pos hb.1]
  unfold codedP
  rw [ha.2, hb.2]
  congr 1
  exact ou9
 rw [e]
 rfl
noncomputable def SpS (n : Nat) (s : List Nat) : Prop := n < 128 ∧ ∃ a r, s = a :: r ∧ a ≠ 45 ∧ a ≠ 91 ∧ a ≠ 93 ∧ a ≠ 94 ∧ ∀ rest, memP (a :: (r ++ rest)) = some (n, rest)
theorem mem_esc {n : Nat} (hn : n < 128) {rest r' : List Nat} (e : escP r' = ([n], rest)) (h1 : r'.take 1 ≠ [10]) : memP (92 :: r') = some (n, rest) := by
 show (if 92 = 10 then none else codeP 92 r') = _
 unfold codeP
 rw [if_neg (by decide), if_pos rfl, if_neg h1, e]
 dsimp only
 rw [if_neg (by exact or4 hn)]
theorem let_esc : ∀ n : Fin 14, 7 ≤ n.val → plainE ((L "abtnvfr").getD (n.val - 7) 0) = some n.val ∧ (L "abtnvfr").getD (n.val - 7) 0 ≠ 10 := by decide +kernel
theorem hexd_ne : ∀ n : Fin 16, hexd n.val ≠ 10 := by decide +kernel
theorem sp_ok {n : Nat} {s : List Nat} (hn : n < 128) (h : SpL n s) : SpS n s := by
 refine ⟨hn, ?_⟩
 rcases h with ⟨⟨h1, h2, h3⟩, rfl⟩ | rfl | ⟨h1, h2, rfl⟩ | ⟨h1, h2, h3, rfl⟩ | rfl | rfl
 ·simp only [List.mem_cons, List.not_mem_nil, or_false, not_or] at h3
  refine ⟨n, [], rfl, by exact og14 h3, by exact oi13 h3, by exact ok12 h3, by exact ox13 h3, fun rest => ?_⟩
  show (if n = 10 then none else codeP n rest) = _
  unfold codeP
  rw [if_neg (by exact ow2 h1), if_neg (by exact oj11 h3), if_neg (by exact or4 hn)]
 ·refine ⟨92, [hexd (n / 64), hexd (n / 8 % 8), hexd (n % 8)], rfl, by omega, by omega, by omega, by omega, fun rest => ?_⟩
  refine mem_esc hn (esc_oct (by exact od3 hn) rest) ?_
  have := hexd_ne ⟨n / 64, by exact oy4 hn⟩
  simpa using this
 ·obtain ⟨a1, a2⟩ := let_esc ⟨n, by exact ou7 h2⟩ h1
  dsimp only at a1 a2
  refine ⟨92, [(L "abtnvfr").getD (n - 7) 0], rfl, by omega, by omega, by omega, by omega, fun rest => ?_⟩
  generalize (L "abtnvfr").getD (n - 7) 0 = a at *
  refine mem_esc hn ?_ ?_
  ·show escP (a :: rest) = _
   rw [escP_cons, a1]
  ·simpa using a2
 ·refine ⟨92, [n], rfl, by omega, by omega, by omega, by omega, fun rest => ?_⟩
  refine mem_esc hn ?_ ?_
  ·show escP (n :: rest) = _
   have key : ∀ m : Fin 128, m.val ∉ L "abtnvfrx01234567" → plainE m.val = none ∧ m.val ∉ octS ∧ m.val ≠ 120 := by decide +kernel
   obtain ⟨k1, k2, k3⟩ := key ⟨n, hn⟩ h3
   dsimp only at k1 k2 k3
   rw [escP_cons, k1]
   dsimp only
   rw [if_neg k2]
   cases rest with
   | nil => rfl
   | cons b r' =>
    dsimp only
    rw [if_neg fun z => k3 z.1]
  ·simp; exact ow2 h1
 ·refine ⟨92, [120, hexd (n / 16), hexd (n % 16)], rfl, by omega, by omega, by omega, by omega, fun rest => ?_⟩
  exact mem_esc hn (esc_x (by exact od3 hn) (hexd_hex ⟨n / 16, by exact ol0 hn⟩) (hexd_hex ⟨n % 16, by exact on0⟩) rest) (by simp)
 ·refine ⟨92, [120, hexu (n / 16), hexu (n % 16)], rfl, by omega, by omega, by omega, by omega, fun rest => ?_⟩
  exact mem_esc hn (esc_x (by exact od3 hn) (hexu_hex ⟨n / 16, by exact ol0 hn⟩) (hexu_hex ⟨n % 16, by exact on0⟩) rest) (by simp)
theorem inn_sp {n : Nat} (hn : n < 128) : SpL n (innC n) := by
 unfold innC
 by_cases q : (n : Int) ∈ ([92, 93, 91, 94, 45] : List Int)
 ·rw [if_pos (decide_eq_true q)]
  have key : ∀ m : Fin 128, (m.val : Int) ∈ ([92, 93, 91, 94, 45] : List Int) → 32 ≤ m.val ∧ m.val < 127 ∧ m.val ∉ L "abtnvfrx01234567" := by decide +kernel
  obtain ⟨k1, k2, k3⟩ := key ⟨n, hn⟩ q
  exact .inr (.inr (.inr (.inl ⟨k1, k2, k3, rfl⟩)))
 ·rw [if_neg (by rw [decide_eq_true_eq]; exact q)]
  split
  ·exact .inr (.inr (.inr (.inr (.inl rfl))))
  ·rename_i z
   refine .inl ⟨⟨?_, ?_, q⟩, rfl⟩
   ·simp at z; exact od11 z
   ·simp at z; exact ol11 z
noncomputable def Pce (s : List Nat) (ps : List (Int × Int)) : Prop :=
 (∃ nm, s = L "[:" ++ nm ++ L ":]" ∧ (∀ a ∈ nm, a ∈ nameS) ∧ (∃ b r, nm = b :: r ∧ b ∉ L "0123456789") ∧ clsLook nm = some ps) ∨
 (∃ n, SpS n s ∧ ps = [((n : Int), (n : Int))]) ∨
 (∃ lo hi s1 s2, SpS lo s1 ∧ SpS hi s2 ∧ lo ≤ hi ∧ s = s1 ++ L "-" ++ s2 ∧ ps = [((lo : Int), (hi : Int))])
theorem Pce.head {s : List Nat} {ps : List (Int × Int)} (h : Pce s ps) : ∃ a r, s = a :: r ∧ a ≠ 45 ∧ a ≠ 93 ∧ a ≠ 94 := by
 rcases h with ⟨nm, rfl, _⟩ | ⟨n, ⟨_, a, r, rfl, h1, h2, h3, h4, _⟩, _⟩ | ⟨lo, hi, s1, s2, ⟨_, a, r, rfl, h1, h2, h3, h4, _⟩, _, _, rfl, _⟩
 ·exact ⟨91, 58 :: (nm ++ L ":]"), rfl, by omega, by omega, by omega⟩
 ·exact ⟨a, r, rfl, h1, h3, h4⟩
 ·exact ⟨a, _, rfl, h1, h3, h4⟩
theorem nm_read {nm : List Nat} {ps : List (Int × Int)} (h1 : ∀ a ∈ nm, a ∈ nameS) (h2 : ∃ b r, nm = b :: r ∧ b ∉ L "0123456789") (h3 : clsLook nm = some ps) (rest : List Nat) : nmdP (nm ++ (58 :: 93 :: rest)) = some (ps, rest) := by
 have e : nameP (nm ++ (58 :: 93 :: rest)) = (nm, 58 :: 93 :: rest) := by
  obtain ⟨b, r, rfl, hb⟩ := h2
  have hb1 := h1 b (.head _)
  show (if ([b] == L "" || (!decide (b ∈ nameS) || (decide (b ∈ L "0123456789") || false))) = true then ([], b :: (r ++ (58 :: 93 :: rest))) else ((b :: r ++ (58 :: 93 :: rest)).takeWhile (fun a => decide (a ∈ nameS)), (b :: r ++ (58 :: 93 :: rest)).dropWhile (fun a => decide (a ∈ nameS)))) = _
  rw [if_neg (by rw [decide_eq_true hb1, decide_eq_false hb]; simp [L])]
  have h4 : ∀ a ∈ b :: r, decide (a ∈ nameS) = true := fun a ha => decide_eq_true (h1 a ha)
  rw [List.takeWhile_append_of_pos h4, List.dropWhile_append_of_pos h4, List.takeWhile_cons_of_neg (by decide), List.dropWhile_cons_of_neg (by decide), List.append_nil]
 unfold nmdP
 rw [e]
 dsimp only
 rw [h3]
 rfl
theorem pce_step {s : List Nat} {ps : List (Int × Int)} (h : Pce s ps) (n : Nat) (first : Bool) (acc : List (Int × Int)) (rest : List Nat) (hr : ∀ d r, rest = d :: r → d ≠ 45) : clsP (n + 1) first acc (s ++ rest) = clsP n false (acc ++ ps) rest := by
 obtain ⟨a0, r0, e0, _, e2, _⟩ := h.head
 have hx : ¬ (!first && (s ++ rest).take 1 == L "]") = true := fun z => by
  have := (Bool.and_eq_true_iff.mp z).2
  rw [e0] at this
  have : a0 = 93 := by simpa [L] using this
  exact e2 this
 rw [clsP_go hx, if_neg (by rw [e0]; simp)]
 clear hx e0 e2
 rcases h with ⟨nm, rfl, h1, h2, h3⟩ | ⟨m, ⟨hm, a, r, rfl, h1, h2, h3, h4, h5⟩, rfl⟩ | ⟨lo, hi, s1, s2, ⟨hl, a, r, rfl, h1, h2, h3, h4, h5⟩, ⟨hh, b, r2, rfl, g1, g2, g3, g4, g5⟩, hle, rfl, rfl⟩
 ·have e : L "[:" ++ nm ++ L ":]" ++ rest = 91 :: 58 :: (nm ++ (58 :: 93 :: rest)) := by simp [L]
  rw [e, if_pos (by rfl)]
  show (match nmdP (nm ++ (58 :: 93 :: rest)) with
   | none => none
   | some (sp, r') => clsP n false (acc ++ sp) r') = _
  rw [nm_read h1 h2 h3]
 ·rw [if_neg (by simp [L]; intro z; exact absurd z h2)]
  have e : spnP (a :: r ++ rest) = some (((m : Int), (m : Int)), rest) := by
   unfold spnP
   rw [List.cons_append, h5 rest]
   show spnR m rest = _
   match rest, hr with
   | [], _ => rfl
   | [d], _ => rfl
   | d :: b :: r2, hr =>
    have := hr d _ rfl
    show (if d = 45 ∧ b ≠ 93 then _ else _) = _
    rw [if_neg fun z => this z.1]
  rw [e]
 ·rw [if_neg (by simp [L]; intro z; exact absurd z h2)]
  have e : spnP (a :: r ++ L "-" ++ (b :: r2) ++ rest) = some (((lo : Int), (hi : Int)), rest) := by
   have e1 : a :: r ++ L "-" ++ (b :: r2) ++ rest = a :: (r ++ (45 :: b :: (r2 ++ rest))) := by simp [L]
   unfold spnP
   rw [e1, h5]
   show spnR lo (45 :: b :: (r2 ++ rest)) = _
   show (if 45 = 45 ∧ b ≠ 93 then (if ((b :: (r2 ++ rest)).take 2 == L "[:") = true then none else
   match memP (b :: (r2 ++ rest)) with
   | none => none
   | some (hi, r3) => if hi < lo then none else some (((lo : Int), (hi : Int)), r3)) else some (((lo : Int), (lo : Int)), 45 :: b :: (r2 ++ rest))) = _
   rw [if_pos ⟨rfl, g3⟩, if_neg (by simp [L]; intro z; exact absurd z g2), g5]
   dsimp only
   rw [if_neg (by exact oo13 hle)]
  rw [e]
theorem pce_all : ∀ (l : List (List Nat × List (Int × Int))) (n : Nat) (first : Bool) (acc : List (Int × Int)), (∀ p ∈ l, Pce p.1 p.2) → (first = true → l ≠ []) → l.length < n → clsP n first acc ((l.map (·.1)).flatten ++ L "]") = some (acc ++ (l.map (·.2)).flatten, [])
 | [], n, first, acc, _, h2, h3 => by
  obtain ⟨n, rfl⟩ : ∃ m, n = m + 1 := ⟨n - 1, by simp only [List.length_nil] at h3; exact or5 h3⟩
  have : first = false := by cases first with
   | false => rfl
   | true => exact absurd rfl (h2 rfl)
  subst this
  simp [clsP, L]
 | p :: l, n, first, acc, h1, h2, h3 => by
  simp only [List.length_cons] at h3
  obtain ⟨n, rfl⟩ : ∃ m, n = m + 1 := ⟨n - 1, by exact oa4 h3⟩
  rw [List.map_cons, List.flatten_cons, List.append_assoc, pce_step (h1 p (.head _)), pce_all l n false _ (fun q hq => h1 q (.tail _ hq)) (fun z => by cases z) (by exact oz10 h3)]
  ·simp
  ·intro d r e
   cases l with
   | nil => cases e; decide
   | cons q l =>
    obtain ⟨a, r2, e2, g, _⟩ := (h1 q (.tail _ (.head _))).head
    rw [List.map_cons, List.flatten_cons, e2] at e
    cases e
    exact g
theorem pce_len {l : List (List Nat × List (Int × Int))} (h : ∀ p ∈ l, Pce p.1 p.2) : l.length ≤ (l.map (·.1)).flatten.length := by
 induction l with
 | nil => exact Nat.zero_le _
 | cons p l ih =>
  obtain ⟨a, r, e, _⟩ := (h p (.head _)).head
  have := ih fun q hq => h q (.tail _ hq)
  rw [List.map_cons, List.flatten_cons, List.length_append, e]
  simp only [List.length_cons]
  exact ok9 this
end
section
noncomputable def badB : List Nat → Bool
 | [] => false
 | a :: r => decide (r.length ≤ 50) && (a == 91 || a == 92 || decide (128 ≤ a)) && (if a = 91 then (clsP (r.length + 1) true [] (if (r.take 1 == L "^") = true then r.drop 1 else r)).isNone else (codeP a r).isNone)
theorem badB_ok {T : List Nat} (h : badB T = true) : Bad T := by
 cases T with
 | nil => cases h
 | cons a r =>
  unfold badB at h
  simp only [Bool.and_eq_true, Bool.or_eq_true, decide_eq_true_eq, beq_iff_eq] at h
  obtain ⟨⟨h1, h2⟩, h3⟩ := h
  refine ⟨by simp only [List.length_cons]; exact ow11 h1, a, r, rfl, by exact on5 h2, fun e => ?_, fun e => ?_⟩
  ·rw [if_pos e] at h3
   simpa [Option.isNone_iff_eq_none] using h3
  ·rw [if_neg e] at h3
   simpa [Option.isNone_iff_eq_none] using h3
theorem bad1 : ∀ n : Fin 128, (badB (hexE (n.val + 128)) && badB (octE (n.val + 128)) && badB (L "[" ++ octE (n.val + 128) ++ L "]") && badB (L "[a" ++ hexE (n.val + 128) ++ L "]") && badB [n.val + 128] && badB (L "[" ++ [n.val + 128] ++ L "]")) = true := by decide +kernel
theorem bad2 : ∀ n : Fin 127, badB (L "[" ++ hexE (n.val + 1) ++ L "-" ++ hexE n.val ++ L "]") = true := by decide +kernel
theorem bad3 : ∀ T ∈ [L "[[:alph:]]", L "[[:Alpha:]]", L "[[:digit]]", L "[[::]]", L "[a[:word:]]", L "[ab", L "[", L "[^]", L "[]", L "[a-", L "\\"], badB T = true := by decide +kernel
theorem hb1 : ∀ n, 128 ≤ n → n < 256 → Bad (hexE n) ∧ Bad (octE n) ∧ Bad (L "[" ++ octE n ++ L "]") ∧ Bad (L "[a" ++ hexE n ++ L "]") ∧ Bad [n] ∧ Bad (L "[" ++ [n] ++ L "]") := fun n h1 h2 => by
 have h := bad1 ⟨n - 128, by exact og7 h2⟩
 dsimp only at h
 rw [show n - 128 + 128 = n by exact oa5 h1] at h
 simp only [Bool.and_eq_true] at h
 obtain ⟨⟨⟨⟨⟨a, b⟩, c⟩, d⟩, e⟩, f⟩ := h
 exact ⟨badB_ok a, badB_ok b, badB_ok c, badB_ok d, badB_ok e, badB_ok f⟩
theorem hb2 : ∀ n, n < 127 → Bad (L "[" ++ hexE (n + 1) ++ L "-" ++ hexE n ++ L "]") := fun n h => badB_ok (bad2 ⟨n, h⟩)
theorem hb3 : ∀ T ∈ [L "[[:alph:]]", L "[[:Alpha:]]", L "[[:digit]]", L "[[::]]", L "[a[:word:]]", L "[ab", L "[", L "[^]", L "[]", L "[a-", L "\\"], Bad T := fun T h => badB_ok (bad3 T h)
noncomputable def clsRd (bar : Bool) (qs : List (Int × Int)) : List (Int × Int) := if bar = true then cmpl (mrg qs) else mrg qs
theorem cls_rd {bs : List Bool} {bar : Bool} {ps qs : List (Int × Int)} (h1 : qs.Perm (keptP ps)) (h2 : qs.Pairwise (fun a b => ltP b a = false)) (h : ∀ i, 0 ≤ i → i ≤ 127 → (U ps i ↔ (bit bs i.toNat != bar) = true)) : clsRd bar qs = spsP bs := by
 obtain ⟨g1, g2⟩ := mrg_ok h1 h2
 unfold clsRd
 cases bar with
 | false =>
  refine sps_uniq g1 fun i => ?_
  rw [if_neg (by decide), g2]
  constructor
  ·rintro ⟨a, b, c⟩; exact ⟨a, b, by simpa using (h i a b).mp c⟩
  ·rintro ⟨a, b, c⟩; exact ⟨a, b, (h i a b).mpr (by simpa using c)⟩
 | true =>
  rw [if_pos rfl]
  obtain ⟨c1, c2⟩ := cmpl_ok g1 fun i hi => ⟨((g2 i).mp hi).1, ((g2 i).mp hi).2.1⟩
  refine sps_uniq c1 fun i => ?_
  rw [c2, g2]
  constructor
  ·rintro ⟨a, b, c⟩
   refine ⟨a, b, ?_⟩
   cases z : bit bs i.toNat
   ·exact absurd ⟨a, b, (h i a b).mpr (by rw [z]; rfl)⟩ c
   ·rfl
  ·rintro ⟨a, b, c⟩
   refine ⟨a, b, fun ⟨_, _, y⟩ => ?_⟩
   have := (h i a b).mp y
   rw [c] at this
   cases this
theorem made_ok {bs : List Bool} {ps qs : List (Int × Int)} (h1 : qs.Perm (keptP ps)) (h2 : qs.Pairwise (fun a b => ltP b a = false)) (h : ∀ i, 0 ≤ i → i ≤ 127 → (U ps i ↔ bit bs i.toNat = true)) : mrg qs = spsP bs :=
 cls_rd (bar := false) h1 h2 fun i a b => by rw [h i a b]; cases bit bs i.toNat <;> simp
noncomputable def pcO (p : Int × Int) : List (List Nat × List (Int × Int)) :=
 if p.1 + 1 < p.2 then [(innC p.1.toNat ++ L "-" ++ innC p.2.toNat, [p])] else if p.1 < p.2 then [(innC p.1.toNat, [(p.1, p.1)]), (innC p.2.toNat, [(p.2, p.2)])] else [(innC p.1.toNat, [(p.1, p.1)])]
theorem flat_app {α : Type} (a b : List (List α)) : (a ++ b).flatten = a.flatten ++ b.flatten := List.flatten_append
theorem pc_tex : ∀ (sp : List (Int × Int)) (acc : List Nat), sp.foldl texS acc = acc ++ ((sp.flatMap pcO).map (·.1)).flatten
 | [], acc => by simp
 | p :: sp, acc => by
  rw [List.foldl_cons, pc_tex sp, List.flatMap_cons, List.map_append, flat_app, ← List.append_assoc]
  congr 1
  unfold texS pcO
  by_cases q : p.1 + 1 < p.2
  ·rw [if_pos q, if_pos (decide_eq_true q), if_pos (decide_eq_true (by exact ot12 q))]
   simp
  ·rw [if_neg q, if_neg (by rw [decide_eq_true_eq]; exact q)]
   by_cases z : p.1 < p.2
   ·rw [if_pos z, if_pos (decide_eq_true z)]
    simp [L]
   ·rw [if_neg z, if_neg (by rw [decide_eq_true_eq]; exact z)]
    simp [L]
theorem pc_u (i : Int) : ∀ (sp : List (Int × Int)), (∀ p ∈ sp, p.1 ≤ p.2) → (U ((sp.flatMap pcO).map (·.2)).flatten i ↔ U sp i)
 | [], _ => by simp
 | p :: sp, h => by
  have h0 := h p (.head _)
  rw [List.flatMap_cons, List.map_append, flat_app, U_app, pc_u i sp fun q hq => h q (.tail _ hq), U_cons]
  have : U ((pcO p).map (·.2)).flatten i ↔ (p.1 ≤ i ∧ i ≤ p.2) := by
   unfold pcO
   by_cases q : p.1 + 1 < p.2
   ·rw [if_pos q]
    show U ([p] ++ []) i ↔ _
    rw [List.append_nil, U_one]
   ·rw [if_neg q]
    by_cases z : p.1 < p.2
    ·rw [if_pos z]
     show U [(p.1, p.1), (p.2, p.2)] i ↔ _
     rw [U_cons, U_one]
     dsimp only
     omega
    ·rw [if_neg z]
     show U [(p.1, p.1)] i ↔ _
     rw [U_one]
     dsimp only
     omega
  rw [this]
theorem pc_len : ∀ (sp : List (Int × Int)), ((sp.flatMap pcO).map (·.2)).flatten.length ≤ 2 * sp.length
 | [] => by simp
 | p :: sp => by
  rw [List.flatMap_cons, List.map_append, flat_app, List.length_append]
  have := pc_len sp
  have h : ((pcO p).map (·.2)).flatten.length ≤ 2 := by unfold pcO; split; simp; split <;> simp
  simp only [List.length_cons]
  exact od8 this h
theorem inn_ok {i : Int} (h0 : 0 ≤ i) (h1 : i ≤ 127) : SpS i.toNat (innC i.toNat) := sp_ok (by exact ob0 h1) (inn_sp (by exact ob0 h1))
theorem pc_pce {sp : List (Int × Int)} (h : ∀ p ∈ sp, p.1 ≤ p.2) (hb : InB sp) : ∀ q ∈ sp.flatMap pcO, Pce q.1 q.2 := fun q hq => by
 obtain ⟨p, hp, hq⟩ := List.mem_flatMap.mp hq
 have h0 := h p hp
 obtain ⟨b1, b2, b3, b4⟩ := hb p hp
 have e1 : ((p.1.toNat : Nat) : Int) = p.1 := by exact oa0 b1
 have e2 : ((p.2.toNat : Nat) : Int) = p.2 := by exact oa0 b3
 unfold pcO at hq
 split at hq
 ·obtain rfl := List.mem_singleton.mp hq
  refine .inr (.inr ⟨p.1.toNat, p.2.toNat, _, _, inn_ok b1 b2, inn_ok b3 b4, by omega, rfl, ?_⟩)
  rw [e1, e2]
 ·split at hq
  ·simp only [List.mem_cons, List.not_mem_nil, or_false] at hq
   rcases hq with rfl | rfl
   ·exact .inr (.inl ⟨_, inn_ok b1 b2, by rw [e1]⟩)
   ·exact .inr (.inl ⟨_, inn_ok b3 b4, by rw [e2]⟩)
  ·obtain rfl := List.mem_singleton.mp hq
   exact .inr (.inl ⟨_, inn_ok b1 b2, by rw [e1]⟩)
theorem one_read : ∀ c : Fin 128, (match oneC (c.val : Nat) with | [] => false | a :: r => !decide (a ∈ L "*+?]}^$/ \t\n") && a != 40 && a != 91 && a != 34 && a != 123 && a != 46 && a != 124 && a != 41 && decide (r.length ≤ 5) && codeP a r == some (c.val, [])) = true := by decide +kernel
theorem one_ok {c : Nat} (h : c < 128) : ∃ a r, oneC (c : Nat) = a :: r ∧ a ∉ L "*+?]}^$/ \t\n" ∧ Plain a ∧ a ≠ 124 ∧ a ≠ 41 ∧ r.length ≤ 5 ∧ codeP a r = some (c, []) := by
 have k := one_read ⟨c, h⟩
 dsimp only at k
 cases e : oneC (c : Nat) with
 | nil => rw [e] at k; cases k
 | cons a r =>
  rw [e] at k
  simp only [Bool.and_eq_true, bne_iff_ne, ne_eq, decide_eq_true_eq, Bool.not_eq_true', decide_eq_false_iff_not, beq_iff_eq] at k
  obtain ⟨⟨⟨⟨⟨⟨⟨⟨⟨k0, k1⟩, k2⟩, k3⟩, k4⟩, k5⟩, k6⟩, k7⟩, k8⟩, k9⟩ := k
  exact ⟨a, r, rfl, k0, ⟨k1, k2, k3, k4, k5⟩, k6, k7, k8, k9⟩
theorem stop_no {a : Nat} {r : List Nat} (h1 : a ≠ 124) (h2 : a ≠ 41) : stopF (a :: r) = false := by
 unfold stopF
 simp [L, h1, h2]
end
section
noncomputable def dueV (bs : List Bool) : V := if spsP bs = [] then .tup [.str (L "never")] else .tup [.str (L "chars"), prs (spsP bs)]
structure ClsT (bs : List Bool) (bar : Bool) (l : List (List Nat × List (Int × Int))) : Prop where
 pc : ∀ p ∈ l, Pce p.1 p.2
 ne : l ≠ []
 few : (l.map (·.2)).flatten.length < 64
 u : ∀ i, 0 ≤ i → i ≤ 127 → (U (l.map (·.2)).flatten i ↔ (bit bs i.toNat != bar) = true)
noncomputable def clsX (bar : Bool) (l : List (List Nat × List (Int × Int))) : List Nat := L "[" ++ (if bar = true then L "^" else L "") ++ (l.map (·.1)).flatten ++ L "]"
section
variable {C : Fm} {x : HP → Prop} {lc : Loc} {hp : HP} {k : V → Loc → HP → Prop}
theorem due_nd {bs : List Bool} {v : V} (h : v = ndV (spsP bs)) : (v = nvV ∧ dueV bs = .tup [.str (L "never")]) ∨ ∃ sp, v = chV sp ∧ dueV bs = .tup [.str (L "chars"), prs sp] := by
 subst h
 unfold ndV dueV
 cases spsP bs with
 | nil => exact .inl ⟨rfl, rfl⟩
 | cons p r => exact .inr ⟨_, rfl, rfl⟩
theorem c_heardC {bs : List Bool} {bar : Bool} {l : List (List Nat × List (Int × Int))} (h : ClsT bs bar l) (hz : (clsX bar l).length ≤ 10000) (hrm : 16 ≤ C.rm) (hk : k (dueV bs) lc hp) : OpCall C (.ref 966) [.str (clsX bar l)] k x lc hp := by
 have e0 : clsX bar l = 91 :: ((if bar = true then L "^" else L "") ++ ((l.map (·.1)).flatten ++ L "]")) := by
  unfold clsX; simp [L]
 rw [e0] at hz ⊢
 obtain ⟨a, r, eh, ha⟩ : ∃ a r, (l.map (·.1)).flatten = a :: r ∧ a ≠ 94 := by
  cases l with
  | nil => exact absurd rfl h.ne
  | cons p l =>
   obtain ⟨a, r, e, _, _, h3⟩ := (h.pc p (.head _)).head
   exact ⟨a, r ++ (l.map (·.1)).flatten, by rw [List.map_cons, List.flatten_cons, e]; rfl, h3⟩
 have ht : (((if bar = true then L "^" else L "") ++ ((l.map (·.1)).flatten ++ L "]")).take 1 == L "^") = bar := by
  cases bar with
  | true => rfl
  | false =>
   rw [eh]
   simp [L, ha]
 have hd : (if bar = true then ((if bar = true then L "^" else L "") ++ ((l.map (·.1)).flatten ++ L "]")).drop 1 else ((if bar = true then L "^" else L "") ++ ((l.map (·.1)).flatten ++ L "]"))) = (l.map (·.1)).flatten ++ L "]" := by
  cases bar <;> rfl
 have hl := pce_len h.pc
 have hrd := pce_all l (((if bar = true then L "^" else L "") ++ ((l.map (·.1)).flatten ++ L "]")).length + 1) true [] h.pc (fun _ => h.ne) (by rw [List.length_append, List.length_append]; exact op7 hl)
 refine c_heard1 (P := fun v r' => r' = [] ∧ v = ndV (spsP bs)) _ ?_ hz hrm rfl (dueV bs) (fun v r' hv => ⟨hv.1, due_nd hv.2⟩) hk
 intro C k x lc hp r c hrm hr hn _ hk
 refine c_single_cls hr hn (List.suffix_refl _) hz hrm bar ht (fun e => ?_) fun ps r' e => ?_
 ·rw [hd, hrd] at e; cases e
 ·rw [hd, hrd] at e
  cases e
  refine ⟨h.few, fun qs g1 g2 => hk _ _ ⟨rfl, ?_⟩⟩
  have := cls_rd g1 g2 h.u
  unfold clsRd at this
  rw [this]
theorem oneC_sgl {n : Nat} (hn : n < 128) : Sgl (oneC (n : Nat)) (oneC (n : Nat)) (fun v r' => r' = [] ∧ v = chV [((n : Int), (n : Int))]) False := by
 obtain ⟨a, r, e, h1, h2, h3, h4, h5, h6⟩ := one_ok hn
 rw [e]
 intro C k x lc hp rr c hrm hr hne _ hk
 refine c_single_sign hr hne (List.suffix_refl _) (by simp only [List.length_cons]; exact or3 h5) hrm (fun z => ?_) h2 fun _ m r' em => ?_
 ·rcases z with z | z
  ·exact absurd z h1
  ·rw [h6] at z; cases z
 ·rw [h6] at em
  cases em
  exact hk _ _ ⟨rfl, rfl⟩
theorem dot_sgl : Sgl (L ".") (L ".") (fun v r' => r' = [] ∧ v = chV [(0, 9), (11, 127)]) False := by
 intro C k x lc hp rr c hrm hr hne _ hk
 exact c_single_dot hr hne (List.suffix_refl _) (by decide) hrm (hk _ _ ⟨rfl, rfl⟩)
theorem c_heardS {bs : List Bool} (hz : (lshP (spsP bs)).length ≤ 10000) (hl : (spsP bs).length ≤ 30) (hrm : 16 ≤ C.rm) (hk : k (dueV bs) lc hp) : OpCall C (.ref 966) [.str (lshP (spsP bs))] k x lc hp := by
 have hws := sps_ws bs
 have hinb := sps_inb bs
 have hu := sps_u bs
 have hdn := @due_nd bs
 have hC := @c_heardC C x lc hp k bs
 generalize hds : dueV bs = ds at *
 generalize hsp : spsP bs = sp at *
 unfold lshP at hz ⊢
 by_cases q1 : sp = []
 ·rw [if_pos (decide_eq_true q1)]
  have h : ClsT bs true [(hexE 0 ++ L "-" ++ hexE 127, [(0, 127)])] := by
   refine ⟨fun p hp => ?_, by simp, by decide, fun i a b => ?_⟩
   ·obtain rfl := List.mem_singleton.mp hp
    exact .inr (.inr ⟨0, 127, _, _, sp_ok (by decide) (.inr (.inr (.inr (.inr (.inl rfl))))), sp_ok (by decide) (.inr (.inr (.inr (.inr (.inl rfl))))), by decide, rfl, rfl⟩)
   ·show U [(0, 127)] i ↔ _
    rw [U_one]
    have : bit bs i.toNat = false := by
     cases z : bit bs i.toNat
     ·rfl
     ·have := (hu i).mpr ⟨a, b, z⟩
      rw [q1] at this
      exact ((U_nil _).mp this).elim
    rw [this]
    exact ⟨fun _ => rfl, fun _ => ⟨a, b⟩⟩
  exact hC h (by decide) hrm hk
 ·rw [if_neg (by rw [decide_eq_true_eq]; exact q1)] at hz ⊢
  by_cases q2 : sp = [(0, 9), (11, 127)]
  ·rw [if_pos (decide_eq_true q2)]
   refine c_heard1 _ dot_sgl (by decide) hrm rfl ds (fun v r' hv => ⟨hv.1, hdn ?_⟩) hk
   rw [hv.2, q2]; rfl
  ·rw [if_neg (by rw [decide_eq_true_eq]; exact q2)] at hz ⊢
   by_cases q3 : ((((sp.map prV).length : Int) == 1) && ((sp.headD (0, 0)).1 == (sp.headD (0, 0)).2 && true)) = true
   ·rw [if_pos q3]
    obtain ⟨q4, q5⟩ := Bool.and_eq_true_iff.mp q3
    obtain ⟨p, rfl⟩ : ∃ p, sp = [p] := by
     cases sp with
     | nil => exact absurd rfl q1
     | cons p r =>
      have : (r.length : Int) + 1 = 1 := by simpa using q4
      exact ⟨p, by rw [List.length_eq_zero_iff.mp (show r.length = 0 by exact oe9 this)]⟩
    have q5 : p.1 = p.2 := by simpa using q5
    obtain ⟨b1, b2, b3, b4⟩ := hinb p (.head _)
    have hn : p.1.toNat < 128 := by exact ob0 b2
    have e : ((p.1.toNat : Nat) : Int) = p.1 := by exact oa0 b1
    have hS := oneC_sgl hn
    obtain ⟨a, r, er, _, _, g3, g4, g5, _⟩ := one_ok hn
    rw [e] at hS er
    refine c_heard1 _ hS ?_ hrm ?_ ds (fun v r' hv => ⟨hv.1, hdn ?_⟩) hk
    ·show (oneC p.1).length ≤ 10000
     rw [er]; simp only [List.length_cons]; exact or3 g5
    ·show stopF (oneC p.1) = false
     rw [er]; exact stop_no g3 g4
    ·rw [hv.2]
     have : p = (p.1, p.1) := Prod.ext rfl q5.symm
     rw [this]; rfl
   ·rw [if_neg q3] at hz ⊢
    have ex : L "[" ++ sp.foldl texS [] ++ L "]" = clsX false (sp.flatMap pcO) := by
     unfold clsX
     rw [pc_tex]
     simp [L]
    rw [ex] at hz ⊢
    have h : ClsT bs false (sp.flatMap pcO) := by
     refine ⟨pc_pce hws.le hinb, ?_, ?_, fun i a b => ?_⟩
     ·cases sp with
      | nil => exact absurd rfl q1
      | cons p r =>
       rw [List.flatMap_cons]
       intro z
       have := (List.append_eq_nil_iff.mp z).1
       unfold pcO at this
       split at this
       ·cases this
       ·split at this <;> cases this
     ·have := pc_len sp; exact ov8 this hl
     ·rw [pc_u i sp hws.le, hu]
      constructor
      ·rintro ⟨_, _, z⟩; rw [z]; rfl
      ·intro z; exact ⟨a, b, by simpa using z⟩
    exact hC h hz hrm hk
end
end
section
noncomputable def chD : List Nat := [8, 9, 13, 31, 32, 47, 57, 64, 70, 90, 96, 102, 122, 126]
noncomputable def uB (sp : List (Int × Int)) (c : Int) : Bool := sp.any fun q => decide (q.1 ≤ c) && decide (c ≤ q.2)
theorem uB_ok (sp : List (Int × Int)) (c : Int) : uB sp c = true ↔ U sp c := by
 unfold uB U
 rw [List.any_eq_true]
 constructor <;> rintro ⟨q, h1, h2⟩ <;> exact ⟨q, h1, by simpa using h2⟩
noncomputable def lenC (nm : List Nat) : Nat := ((clsLook nm).getD []).length
noncomputable def wdB (p : List Nat × List Int) : Bool := match clsLook p.1 with
 | none => false
 | some sp => decide (p.1.length ≤ 6) && (p.1.all fun a => decide (a ∈ nameS)) && (match p.1 with | [] => false | b :: _ => !decide (b ∈ L "0123456789")) && (p.2.all fun c => decide (0 ≤ c) && decide (c ≤ 127)) && ((List.range 128).all fun c => decide ((c : Int) ∈ p.2) == uB sp c) && ((List.range 127).all fun c => decide (c ∈ chD) || decide ((c : Int) ∈ p.2) == decide (((c + 1 : Nat) : Int) ∈ p.2))
theorem wd_all : ∀ p ∈ wK.zip wI, wdB p = true := by decide +kernel
structure Wrd (nm : List Nat) (ws : List Int) (sp : List (Int × Int)) : Prop where
 lk : clsLook nm = some sp
 le : nm.length ≤ 6
 al : ∀ a ∈ nm, a ∈ nameS
 hd : ∃ b r, nm = b :: r ∧ b ∉ L "0123456789"
 bd : ∀ c ∈ ws, 0 ≤ c ∧ c ≤ 127
 u : ∀ c, 0 ≤ c → c ≤ 127 → (c ∈ ws ↔ U sp c)
 ch : ∀ i : Nat, i < 127 → i ∉ chD → ((i : Int) ∈ ws ↔ ((i + 1 : Nat) : Int) ∈ ws)
theorem wd_ok {nm : List Nat} {ws : List Int} (h : (nm, ws) ∈ wK.zip wI) : ∃ sp, Wrd nm ws sp := by
 have k := wd_all _ h
 unfold wdB at k
 cases e : clsLook nm with
 | none => rw [e] at k; cases k
 | some sp =>
  rw [e] at k
  simp only [Bool.and_eq_true] at k
  obtain ⟨⟨⟨⟨⟨k1, k2⟩, k3⟩, k4⟩, k5⟩, k6⟩ := k
  refine ⟨sp, e, of_decide_eq_true k1, fun a ha => of_decide_eq_true (List.all_eq_true.mp k2 a ha), ?_, fun c hc => ?_, fun c h0 h1 => ?_, fun i hi hn => ?_⟩
  ·cases nm with
   | nil => cases k3
   | cons b r => exact ⟨b, r, rfl, by simpa using k3⟩
  ·have := List.all_eq_true.mp k4 c hc
   simpa using this
  ·have := List.all_eq_true.mp k5 c.toNat (List.mem_range.mpr (by exact ob0 h1))
   rw [show ((c.toNat : Nat) : Int) = c by exact oa0 h0] at this
   have this := beq_iff_eq.mp this
   rw [← uB_ok, ← this, decide_eq_true_eq]
  ·have := List.all_eq_true.mp k6 i (List.mem_range.mpr hi)
   rw [decide_eq_false hn, Bool.false_or] at this
   have this := beq_iff_eq.mp this
   constructor
   ·intro z
    exact of_decide_eq_true (by rw [← this]; exact decide_eq_true z)
   ·intro z
    exact of_decide_eq_true (by rw [this]; exact decide_eq_true z)
theorem lookD_zip {nm : List Nat} : ∀ {ks : List (List Nat)} {ws : List (List Int)}, nm ∈ ks → ks.length = ws.length → ∃ w, (nm, w) ∈ ks.zip ws ∧ lookD nm ks (ws.map lsI) = some (lsI w)
 | [], _, h, _ => by cases h
 | _ :: _, [], _, h => by cases h
 | k :: ks, w :: ws, h, hl => by
  rw [List.map_cons]
  unfold lookD
  by_cases q : k = nm
  ·rw [if_pos q, q]; exact ⟨w, .head _, rfl⟩
  ·rw [if_neg q]
   rcases List.mem_cons.mp h with z | z
   ·exact absurd z.symm q
   ·obtain ⟨u, h1, h2⟩ := lookD_zip z (by simpa using hl)
    exact ⟨u, .tail _ h1, h2⟩
theorem sum_len {ns : List (List Nat)} (h : ns.Perm wK) : (ns.map lenC).sum = 23 := by
 rw [(h.map lenC).sum_nat]; decide +kernel
noncomputable abbrev Pcs : Type := List (List Nat × List (Int × Int))
noncomputable abbrev prsO (l : Pcs) : List (Int × Int) := (l.map (·.2)).flatten
noncomputable def PcL (l : Pcs) : Prop := ∀ p ∈ l, Pce p.1 p.2 ∧ p.1.length ≤ 10
theorem PcL.app {l : Pcs} {s : List Nat} {ps : List (Int × Int)} (h : PcL l) (h1 : Pce s ps) (h2 : s.length ≤ 10) : PcL (l ++ [(s, ps)]) := fun p hp => by
 rcases List.mem_append.mp hp with hp | hp
 ·exact h p hp
 ·obtain rfl := List.mem_singleton.mp hp; exact ⟨h1, h2⟩
theorem prsO_app (l : Pcs) (s : List Nat) (ps : List (Int × Int)) : prsO (l ++ [(s, ps)]) = prsO l ++ ps := by simp [prsO]
structure PcI (wt lf : List Bool) (l : Pcs) (N M : Nat) : Prop where
 pc : PcL l
 cnt : l.length ≤ M
 few : (prsO l).length ≤ N
 sub : ∀ c, 0 ≤ c → c ≤ 127 → U (prsO l) c → bit wt c.toNat = true
 left : ∀ c, 0 ≤ c → c ≤ 127 → (bit lf c.toNat = true ↔ bit wt c.toNat = true ∧ ¬ U (prsO l) c)
 cg : ∀ i, i < 127 → bit wt i = bit wt (i + 1) → i ∉ chD → bit lf i = bit lf (i + 1)
theorem PcI.start (wt : List Bool) : PcI wt wt [] 0 0 :=
 ⟨fun _ h => (by cases h), Nat.le_refl _, Nat.le_refl _, fun c _ _ h => ((U_nil c).mp h).elim, fun c _ _ => ⟨fun h => ⟨h, fun z => (U_nil c).mp z⟩, fun h => h.1⟩, fun _ _ h _ => h⟩
theorem PcI.named {wt lf : List Bool} {l : Pcs} {N M : Nat} {nm : List Nat} {ws : List Int} {sp : List (Int × Int)} (h : PcI wt lf l N M) (w : Wrd nm ws sp) (hs : ∀ c ∈ ws, bit wt c.toNat = true) :
  PcI wt (tab fun c => bit lf c.toNat && !decide (c ∈ ws)) (l ++ [(L "[:" ++ nm ++ L ":]", sp)]) (N + lenC nm) (M + 1) := by
 refine ⟨h.pc.app (.inl ⟨nm, rfl, w.al, w.hd, w.lk⟩) ?_, ?_, ?_, fun c h0 h1 hu => ?_, fun c h0 h1 => ?_, fun i hi e hn => ?_⟩
 ·have := w.le
  rw [List.length_append, List.length_append, show (L "[:").length = 2 from rfl, show (L ":]").length = 2 from rfl]; exact ot10 this
 ·have := h.cnt; rw [List.length_append]; simp only [List.length_cons, List.length_nil]; exact oi5 this
 ·have := h.few
  rw [prsO_app, List.length_append]
  unfold lenC; rw [w.lk, Option.getD_some]; exact ol10 this
 ·rw [prsO_app, U_app] at hu
  rcases hu with z | z
  ·exact h.sub c h0 h1 z
  ·exact hs c ((w.u c h0 h1).mpr z)
 ·rw [tab_bit _ (by exact ob0 h1), prsO_app, U_app, Bool.and_eq_true, show ((c.toNat : Nat) : Int) = c by exact oa0 h0, h.left c h0 h1, Bool.not_eq_true', decide_eq_false_iff_not, w.u c h0 h1]
  constructor
  ·rintro ⟨⟨a, b⟩, d⟩
   exact ⟨a, fun z => z.elim b d⟩
  ·rintro ⟨a, b⟩
   exact ⟨⟨a, fun z => b (.inl z)⟩, fun z => b (.inr z)⟩
 ·rw [tab_bit _ (by exact od12 hi), tab_bit _ (by exact on11 hi)]
  simp only [Int.toNat_natCast]
  rw [h.cg i hi e hn]
  congr 2
  exact decide_eq_decide.mpr (w.ch i hi hn)
theorem PcI.chg {wt lf : List Bool} {l : Pcs} {N M : Nat} (h : PcI wt lf l N M) : chg lf ≤ chg wt + 14 := chg_le (D := chD) fun i hi e hn => h.cg i hi e hn
theorem PcI.mono {wt lf : List Bool} {l : Pcs} {N M N' M' : Nat} (h : PcI wt lf l N M) (h1 : N ≤ N') (h2 : M ≤ M') : PcI wt lf l N' M' := ⟨h.pc, by have := h.cnt; exact oc5 h2 this, by have := h.few; exact oc5 h1 this, h.sub, h.left, h.cg⟩
theorem U_prsO (l : Pcs) (c : Int) : U (prsO l) c ↔ ∃ p ∈ l, U p.2 c := by
 unfold U prsO
 constructor
 ·rintro ⟨q, hq, a⟩
  obtain ⟨ps, hps, hq⟩ := List.mem_flatten.mp hq
  obtain ⟨p, hp, rfl⟩ := List.mem_map.mp hps
  exact ⟨p, hp, q, hq, a⟩
 ·rintro ⟨p, hp, q, hq, a⟩
  exact ⟨q, List.mem_flatten.mpr ⟨p.2, List.mem_map.mpr ⟨p, hp, rfl⟩, hq⟩, a⟩
theorem flat_len {α : Type} : ∀ (l : List (List α)) (n : Nat), (∀ s ∈ l, s.length ≤ n) → l.flatten.length ≤ n * l.length
 | [], n, _ => by simp
 | s :: l, n, h => by
  have h1 := flat_len l n fun t ht => h t (.tail _ ht)
  have h2 := h s (.head _)
  rw [List.flatten_cons, List.length_append, List.length_cons, Nat.mul_succ]
  exact ov9 h1 h2
theorem cls_fin {bs wt lf : List Bool} {l0 l : Pcs} {bar : Bool} (hP : PcI wt lf l0 23 12) (hl : PcL l) (hc : l.length ≤ 36) (hf : (prsO l).length ≤ 47) (hu : ∀ c, U (prsO l) c ↔ U (prsO l0) c ∨ U (spsP lf) c)
  (hw : ∀ c : Int, 0 ≤ c → c ≤ 127 → bit wt c.toNat = (bit bs c.toNat != bar)) (hne : ∃ c : Int, 0 ≤ c ∧ c ≤ 127 ∧ bit wt c.toNat = true) :
  l ≠ [] ∧ ∀ t, ClsT bs bar (l.drop t ++ l.take t) ∧ (clsX bar (l.drop t ++ l.take t)).length ≤ 10000 := by
 have key : ∀ c : Int, 0 ≤ c → c ≤ 127 → (U (prsO l) c ↔ bit wt c.toNat = true) := fun c h0 h1 => by
  rw [hu, sps_u, hP.left c h0 h1]
  constructor
  ·rintro (z | ⟨_, _, z, _⟩)
   ·exact hP.sub c h0 h1 z
   ·exact z
  ·intro z
   by_cases y : U (prsO l0) c
   ·exact .inl y
   ·exact .inr ⟨h0, h1, z, y⟩
 have hne : l ≠ [] := fun z => by
  obtain ⟨c, h0, h1, h2⟩ := hne
  have := (key c h0 h1).mpr h2
  rw [z] at this
  exact (U_nil c).mp this
 refine ⟨hne, fun t => ?_⟩
 have hp : (l.drop t ++ l.take t).Perm l := List.perm_append_comm.trans (by rw [List.take_append_drop])
 generalize l.drop t ++ l.take t = m at hp
 have hmm : ∀ p, p ∈ m ↔ p ∈ l := fun p => hp.mem_iff
 refine ⟨⟨fun p hp => (hl p ((hmm p).mp hp)).1, fun z => ?_, ?_, fun c h0 h1 => ?_⟩, ?_⟩
 ·rw [z] at hp
  exact hne (List.nil_perm.mp hp)
 ·have e : (prsO m).length = (prsO l).length := by
   unfold prsO
   rw [List.length_flatten, List.length_flatten]
   exact ((hp.map _).map _).sum_nat
  show (prsO m).length < 64
  exact of11 e hf
 ·have e : U (prsO m) c ↔ U (prsO l) c := by
   rw [U_prsO, U_prsO]
   constructor <;> rintro ⟨p, hp, a⟩
   ·exact ⟨p, (hmm p).mp hp, a⟩
   ·exact ⟨p, (hmm p).mpr hp, a⟩
  show U (prsO m) c ↔ _
  rw [e, key c h0 h1, hw c h0 h1]
 ·have h1 := flat_len (m.map (·.1)) 10 fun s hs => by
   obtain ⟨p, hp, rfl⟩ := List.mem_map.mp hs
   exact (hl p ((hmm p).mp hp)).2
  rw [List.length_map, hp.length_eq] at h1
  unfold clsX
  rw [List.length_append, List.length_append, List.length_append, show (L "[").length = 1 from rfl, show (L "]").length = 1 from rfl]
  have : (if bar = true then L "^" else L "").length ≤ 1 := by cases bar <;> decide
  exact od7 h1 hc this
end
section
structure HG (hp H : HP) (p : Nat) (pen : O) : Prop where
 fp : H p = some pen
 le : ∀ b o, b ≠ p → hp b = some o → H b = some o
theorem HG.set {hp H : HP} {p m : Nat} {pen o : O} (h : HG hp H p pen) (hm : hp m = none) (hmp : p ≠ m) : HG hp (H.set m o) p pen :=
 ⟨HP.neN hmp h.fp, fun b ob h1 e => by
  have q : b ≠ m := fun z => by rw [z, hm] at e; cases e
  exact (HP.set_off q).trans (h.le b ob h1 e)⟩
theorem HG.setp {hp H : HP} {p : Nat} {pen pen' : O} (h : HG hp H p pen) : HG hp (H.set p pen') p pen' :=
 ⟨HP.set_get .., fun b ob h1 e => (HP.set_off h1).trans (h.le b ob h1 e)⟩
theorem HG.hple {hp H : HP} {p : Nat} {pen : O} (h : HG hp H p pen) : HP.le (hp.set p pen) H := fun b ob e => by
 by_cases q : b = p
 ·subst q
  rw [HP.set_get] at e
  rw [h.fp]; exact e
 ·exact h.le b ob q ((HP.set_off q).symm.trans e)
structure Amb (hp : HP) (p n q : Nat) : Prop where
 h0 : hp n = none
 h1 : hp (n + 1) = none
 h2 : hp (n + 2) = none
 h3 : hp (n + 3) = none
 hq : hp q = none
 pn : p < n
 q0 : q ≠ n
 q1 : q ≠ n + 1
 q2 : q ≠ n + 2
 q3 : q ≠ n + 3
 qp : q ≠ p
structure C4 (hp H : HP) (p n : Nat) (pen : O) (v1 v2 v3 : Option V) : Prop where
 g : HG hp H p pen
 c0 : H n = some (.cell (some wV))
 c1 : H (n + 1) = some (.cell v1)
 c2 : H (n + 2) = some (.cell v2)
 c3 : H (n + 3) = some (.cell v3)
structure AmbC (hp : HP) (p n : Nat) : Prop where
 h0 : hp n = none
 h1 : hp (n + 1) = none
 h2 : hp (n + 2) = none
 h3 : hp (n + 3) = none
 pn : p < n
section
variable {hp H : HP} {p n q : Nat} {pen : O} {v1 v2 v3 : Option V}
theorem AmbC.of (h : ∀ c, n ≤ c → hp c = none) (pn : p < n) : AmbC hp p n :=
 ⟨h _ (Nat.le_refl _), h _ (Nat.le_add_right ..), h _ (Nat.le_add_right ..), h _ (Nat.le_add_right ..), pn⟩
theorem C4.init (a : AmbC hp p n) (h : hp p = some pen) : C4 hp ((((hp.set n (.cell (some wV))).set (n + 1) (.cell none)).set (n + 2) (.cell none)).set (n + 3) (.cell none)) p n pen none none none :=
 ⟨HG.set (HG.set (HG.set (HG.set ⟨h, fun _ _ _ e => e⟩ a.h0 (np_ a.pn 0).symm) a.h1 (np_ a.pn 1).symm) a.h2 (np_ a.pn 2).symm) a.h3 (np_ a.pn 3).symm, HP.neN (nk0 (by decide)) (HP.neN (nk0 (by decide)) (HP.neN (nk0 (by decide)) (HP.set_get ..))), HP.neN (nk_ (by decide)) (HP.neN (nk_ (by decide)) (HP.set_get ..)), HP.neN (nk_ (by decide)) (HP.set_get ..), HP.set_get ..⟩
theorem C4.setp {pen' : O} (h : C4 hp H p n pen v1 v2 v3) (a : AmbC hp p n) : C4 hp (H.set p pen') p n pen' v1 v2 v3 :=
 ⟨h.g.setp, HP.neN (np_ a.pn 0) h.c0, HP.neN (np_ a.pn 1) h.c1, HP.neN (np_ a.pn 2) h.c2, HP.neN (np_ a.pn 3) h.c3⟩
theorem C4.set1 {v : Option V} (h : C4 hp H p n pen v1 v2 v3) (a : AmbC hp p n) : C4 hp (H.set (n + 1) (.cell v)) p n pen v v2 v3 :=
 ⟨h.g.set a.h1 (np_ a.pn 1).symm, HP.neN (nk0 (by decide)) h.c0, HP.set_get .., HP.neN (nk_ (by decide)) h.c2, HP.neN (nk_ (by decide)) h.c3⟩
theorem C4.amb (h : C4 hp H p n pen v1 v2 v3) (a : AmbC hp p n) (hq : H q = none) : Amb hp p n q := by
 have e : hp q = none := by
  cases z : hp q with
  | none => rfl
  | some ob =>
   by_cases y : q = p
   ·rw [y, h.g.fp] at hq; cases hq
   ·rw [h.g.le q ob y z] at hq; cases hq
 have d {a : Nat} {o : O} (y : H a = some o) : q ≠ a := fun z => by rw [z, y] at hq; cases hq
 exact ⟨a.h0, a.h1, a.h2, a.h3, e, a.pn, d h.c0, d h.c1, d h.c2, d h.c3, d h.g.fp⟩
theorem C4.setq {ob : O} (h : C4 hp H p n pen v1 v2 v3) (a : Amb hp p n q) : C4 hp (H.set q ob) p n pen v1 v2 v3 :=
 ⟨h.g.set a.hq a.qp.symm, HP.neN a.q0.symm h.c0, HP.neN a.q1.symm h.c1, HP.neN a.q2.symm h.c2, HP.neN a.q3.symm h.c3⟩
end
structure CS (hp H : HP) (p n q : Nat) (pen : O) (wt lf : List Bool) (nm : Option V) (ts : List V) : Prop where
 g : HG hp H p pen
 c0 : H n = some (.cell (some wV))
 c1 : H (n + 1) = some (.cell (some (.lst (wt.map .bool))))
 c2 : H (n + 2) = some (.cell (some (.lst (lf.map .bool))))
 c3 : H (n + 3) = some (.cell nm)
 cq : H q = some (.list ts)
section
variable {hp H : HP} {p n q : Nat} {pen : O} {wt lf : List Bool} {nm : Option V} {ts : List V}
theorem CS.setp {pen' : O} (h : CS hp H p n q pen wt lf nm ts) (a : Amb hp p n q) : CS hp (H.set p pen') p n q pen' wt lf nm ts :=
 ⟨h.g.setp, HP.neN (np_ a.pn 0) h.c0, HP.neN (np_ a.pn 1) h.c1, HP.neN (np_ a.pn 2) h.c2, HP.neN (np_ a.pn 3) h.c3, HP.neN a.qp h.cq⟩
theorem CS.setn {nm' : Option V} (h : CS hp H p n q pen wt lf nm ts) (a : Amb hp p n q) : CS hp (H.set (n + 3) (.cell nm')) p n q pen wt lf nm' ts :=
 ⟨h.g.set a.h3 (np_ a.pn 3).symm, HP.neN (nk0 (by decide)) h.c0, HP.neN (nk_ (by decide)) h.c1, HP.neN (nk_ (by decide)) h.c2, HP.set_get .., HP.neN a.q3 h.cq⟩
theorem CS.setl {lf' : List Bool} (h : CS hp H p n q pen wt lf nm ts) (a : Amb hp p n q) : CS hp (H.set (n + 2) (.cell (some (.lst (lf'.map .bool))))) p n q pen wt lf' nm ts :=
 ⟨h.g.set a.h2 (np_ a.pn 2).symm, HP.neN (nk0 (by decide)) h.c0, HP.neN (nk_ (by decide)) h.c1, HP.set_get .., HP.neN (nk_ (by decide)) h.c3, HP.neN a.q2 h.cq⟩
theorem CS.sett {ts' : List V} (h : CS hp H p n q pen wt lf nm ts) (a : Amb hp p n q) : CS hp (H.set q (.list ts')) p n q pen wt lf nm ts' :=
 ⟨h.g.set a.hq a.qp.symm, HP.neN a.q0.symm h.c0, HP.neN a.q1.symm h.c1, HP.neN a.q2.symm h.c2, HP.neN a.q3.symm h.c3, HP.set_get ..⟩
theorem C4.fin (h : C4 hp H p n pen (some (.lst (wt.map .bool))) none none) (a : Amb hp p n q) (e : H q = some (.list ts)) : CS hp (H.set (n + 2) (.cell (some (.lst (lf.map .bool))))) p n q pen wt lf none ts :=
 ⟨h.g.set a.h2 (np_ a.pn 2).symm, HP.neN (nk0 (by decide)) h.c0, HP.neN (nk_ (by decide)) h.c1, HP.set_get .., HP.neN (nk_ (by decide)) h.c3, HP.neN a.q2 e⟩
end
structure Pc2 (l0 l : Pcs) (sp : List (Int × Int)) : Prop where
 pc : PcL l
 cnt : l.length = l0.length + sp.length
 few : (prsO l).length = (prsO l0).length + sp.length
 u : ∀ c, U (prsO l) c ↔ U (prsO l0) c ∨ U sp c
theorem Pc2.start {l0 : Pcs} (h : PcL l0) : Pc2 l0 l0 [] := ⟨h, rfl, rfl, fun c => by rw [U_nil, or_false]⟩
theorem Pc2.add {l0 l : Pcs} {sp : List (Int × Int)} {s : List Nat} {p : Int × Int} (h : Pc2 l0 l sp) (h1 : Pce s [p]) (h2 : s.length ≤ 10) : Pc2 l0 (l ++ [(s, [p])]) (sp ++ [p]) := by
 refine ⟨h.pc.app h1 h2, ?_, ?_, fun c => ?_⟩
 ·have := h.cnt
  rw [List.length_append, List.length_append]; simp only [List.length_cons, List.length_nil]; exact oc3 this
 ·have := h.few
  rw [prsO_app, List.length_append, List.length_append]; simp only [List.length_cons, List.length_nil]; exact oc3 this
 ·rw [prsO_app, U_app, U_app, h.u c, or_assoc]
theorem SpL.le4 {n : Nat} {s : List Nat} (h : SpL n s) : s.length ≤ 4 := by
 rcases h with ⟨_, rfl⟩ | rfl | ⟨_, _, rfl⟩ | ⟨_, _, _, rfl⟩ | rfl | rfl <;> simp [L, hexE, hexU]
theorem pce_two {a b : Nat} {s1 s2 : List Nat} (ha : a < 128) (hb : b < 128) (hab : a ≤ b) (h1 : SpL a s1) (h2 : SpL b s2) : Pce (s1 ++ L "-" ++ s2) [((a : Int), (b : Int))] ∧ (s1 ++ L "-" ++ s2).length ≤ 10 := by
 refine ⟨.inr (.inr ⟨a, b, s1, s2, sp_ok ha h1, sp_ok hb h2, hab, rfl, rfl⟩), ?_⟩
 have := h1.le4
 have := h2.le4
 simp only [List.length_append, show (L "-").length = 1 from rfl]; omega
theorem pce_one {a : Nat} {s : List Nat} (ha : a < 128) (h : SpL a s) : Pce s [((a : Int), (a : Int))] ∧ s.length ≤ 10 := ⟨.inr (.inl ⟨a, sp_ok ha h, rfl⟩), by have := h.le4; exact ow12 this⟩
theorem lay_bools : ∀ (cs : List Bool), isDs (cs.map .bool) = true
 | [] => rfl
 | p :: r => by
  rw [List.map_cons]; simp only [isDs, V.isD, lay_bools r, Bool.and_self]
theorem any_bools (l : List Bool) (b : Bool) : ((l.map V.bool).any fun y => PyData.eqv y.pd (V.bool b).pd) = decide (b ∈ l) := by
 induction l with
 | nil => rfl
 | cons a r ih =>
  rw [List.map_cons, List.any_cons, ih]
  have e : PyData.eqv (V.bool a).pd (V.bool b).pd = (a == b) := by cases a <;> cases b <;> rfl
  rw [e]
  by_cases q : a = b
  ·subst q; simp
  ·have q' : b ≠ a := fun z => q z.symm
   simp [q, q']
theorem sum_take {ns : List (List Nat)} {i : Nat} {nm : List Nat} (h : ns[i]? = some nm) : ((ns.take (i + 1)).map lenC).sum = ((ns.take i).map lenC).sum + lenC nm := by
 rw [List.take_add_one, h, List.map_append, List.sum_append]; simp
theorem wz_len : ∀ p ∈ wK.zip wI, p.2.length ≤ 128 := by decide +kernel
theorem tab_ints (g : Int → Bool) (l : List Int) : ((l.map V.int).filter fun _ => true).map (tabF g) = (l.map g).map .bool := by
 rw [List.filter_eq_self.mpr fun _ _ => rfl, List.map_map, List.map_map]; rfl
theorem U_take {sp : List (Int × Int)} {i : Nat} {p : Int × Int} (h : sp[i]? = some p) (c : Int) : U (sp.take (i + 1)) c ↔ U (sp.take i) c ∨ (p.1 ≤ c ∧ c ≤ p.2) := by
 rw [List.take_add_one, h, U_app]
 show _ ∨ U [p] c ↔ _
 rw [U_one]
theorem bit_no {bs : List Bool} (hb : bs.length = 128) (h : false ∈ bs) : ∃ c : Int, 0 ≤ c ∧ c ≤ 127 ∧ bit bs c.toNat = false := by
 obtain ⟨i, hi, e⟩ := List.getElem_of_mem h
 refine ⟨i, by exact od5, by exact oi12 hb hi, ?_⟩
 unfold bit
 rw [Int.toNat_natCast, List.getD_eq_getElem?_getD, List.getElem?_eq_getElem hi, e]; rfl
theorem bit_yes {bs : List Bool} (h : spsP bs ≠ []) : ∃ c : Int, 0 ≤ c ∧ c ≤ 127 ∧ bit bs c.toNat = true := by
 cases e : spsP bs with
 | nil => exact absurd e h
 | cons p r =>
  have hl := (sps_ws bs).le p (by rw [e]; exact .head _)
  exact ⟨p.1, (sps_u bs p.1).mp ⟨p, by rw [e]; exact .head _, Int.le_refl _, hl⟩⟩
theorem hne_of {bs wt : List Bool} {bar : Bool} (hb : bs.length = 128) (hbar : bar = true → false ∈ bs) (hsome : spsP bs ≠ []) (w3 : ∀ c : Int, 0 ≤ c → c ≤ 127 → bit wt c.toNat = (bit bs c.toNat != bar)) : ∃ c : Int, 0 ≤ c ∧ c ≤ 127 ∧ bit wt c.toNat = true := by
 cases bar with
 | true =>
  obtain ⟨c, c0, c1, e⟩ := bit_no hb (hbar rfl)
  exact ⟨c, c0, c1, by rw [w3 c c0 c1, e]; rfl⟩
 | false =>
  obtain ⟨c, c0, c1, e⟩ := bit_yes hsome
  exact ⟨c, c0, c1, by rw [w3 c c0 c1, e]; rfl⟩
noncomputable def tsV (l : Pcs) : List V := (l.map (·.1)).map .str
theorem tsV_len (l : Pcs) : (tsV l).length = l.length := by simp [tsV]
theorem tsV_app (l : Pcs) (s : List Nat) (ps : List (Int × Int)) : tsV (l ++ [(s, ps)]) = tsV l ++ [.str s] := by simp [tsV]
section
variable {a b c : Int} {n m i j s w f g : Nat}
theorem i_a (h : i < 12) : i + 1 ≤ 10000 := Nat.le_trans h (by decide)
theorem i_b (h : i < 12) : 13 + 7 * i ≤ 10000 := Nat.le_trans (Nat.add_le_add_left (Nat.mul_le_mul_left 7 (Nat.le_of_lt h)) 13) (by decide)
theorem i_c (h : i < 12) (hj : j < 2) : 13 + 7 * i + 1 + 3 * j ≤ 9000 := Nat.le_trans (Nat.add_le_add (Nat.add_le_add_right (Nat.add_le_add_left (Nat.mul_le_mul_left 7 (Nat.le_of_lt h)) 13) 1) (Nat.mul_le_mul_left 3 (Nat.le_of_lt hj))) (by decide)
theorem n_2 (h : n ≤ 9000) : n + 1 + 1 ≤ 10000 := Nat.le_trans (Nat.add_le_add_right h 2) (by decide)
theorem i_s (h1 : 2 * s ≤ g + 2) (h2 : g ≤ w + 14) (h3 : w ≤ 8) : s ≤ 12 := by omega
theorem i_l (h1 : f = 2 * s) (h2 : n = m + f) (h3 : s ≤ 12) (h4 : m ≤ 12) : n ≤ 36 := by rw [h2, h1]; exact Nat.add_le_add h4 (Nat.mul_le_mul_left 2 h3)
theorem i_f (h1 : f = 2 * s) (h2 : n = m + f) (h3 : s ≤ 12) (h4 : m ≤ 23) : n ≤ 47 := by rw [h2, h1]; exact Nat.add_le_add h4 (Nat.mul_le_mul_left 2 h3)
theorem i_m (h1 : n = m + (2 * i + min j s)) (h2 : i < 12) (h3 : j < 2) (h4 : m ≤ 12) : n ≤ 40 := by
 rw [h1]
 exact Nat.le_trans (Nat.add_le_add h4 (Nat.add_le_add (Nat.mul_le_mul_left 2 (Nat.le_of_lt h2)) (Nat.le_trans (Nat.min_le_left ..) (Nat.le_of_lt h3)))) (by decide)
theorem tn_lt (h : n = 128) (h1 : 0 ≤ a) (h2 : a ≤ 127) : a.toNat < n := by omega
theorem lt_128 (h : n = 128) (h2 : a ≤ 127) : a < n := by rw [h]; exact Int.lt_of_le_of_lt h2 (by decide)
theorem wd_1 (h : 0 ≤ a) (h2 : b ≤ 127) : b - a + 1 ≤ 1000 := by omega
theorem wd_2 (h : a ≤ b) : 1 ≤ b - a + 1 := by omega
end
section
variable {s s2 b f : List Nat}
theorem st_1 (h : s.length ≤ 4) : s.length + (L "-").length ≤ sizeLine := by rw [sizeLine_eq]; exact Nat.le_trans (Nat.add_le_add_right h _) (by decide)
theorem st_2 (h : s.length ≤ 4) (h2 : s2.length ≤ 4) : (s ++ L "-").length + s2.length ≤ sizeLine := by rw [sizeLine_eq, List.length_append]; exact Nat.le_trans (Nat.add_le_add (Nat.add_le_add_right h _) h2) (by decide)
theorem nm_1 (h : s.length ≤ 6) : (L "[:").length + s.length ≤ sizeLine := by rw [sizeLine_eq]; exact Nat.le_trans (Nat.add_le_add_left h _) (by decide)
theorem nm_2 (h : s.length ≤ 6) : (L "[:" ++ s).length + (L ":]").length ≤ sizeLine := by rw [sizeLine_eq, List.length_append]; exact Nat.le_trans (Nat.add_le_add_right (Nat.add_le_add_left h _) _) (by decide)
theorem cl_1 (h : b.length ≤ 1) : (L "[").length + b.length ≤ sizeLine := by rw [sizeLine_eq]; exact Nat.le_trans (Nat.add_le_add_left h _) (by decide)
theorem cl_2 (h : b.length ≤ 1) (h2 : f.length ≤ 10000) : (L "[" ++ b).length + f.length ≤ sizeLine := by rw [sizeLine_eq, List.length_append]; exact Nat.le_trans (Nat.add_le_add (Nat.add_le_add_left h _) h2) (by decide)
theorem cl_3 (h : b.length ≤ 1) (h2 : f.length ≤ 10000) : (L "[" ++ b ++ f).length + (L "]").length ≤ sizeLine := by rw [sizeLine_eq, List.length_append, List.length_append]; exact Nat.le_trans (Nat.add_le_add_right (Nat.add_le_add (Nat.add_le_add_left h _) h2) _) (by decide)
end
theorem ts_1 {l : Pcs} (h : l.length ≤ 40) : (tsV l).length ≤ 1048576 := by rw [tsV_len]; exact Nat.le_trans h (by decide)
theorem ts_2 {l : Pcs} (h : l.length ≤ 40) : (tsV l).length < 9223372036854775808 := by rw [tsV_len]; exact Nat.lt_of_le_of_lt h (by decide)
theorem ts_3 {l : Pcs} (h : l.length ≤ 40) : ((tsV l).length : Int) ≤ 1000 := by rw [tsV_len]; exact Int.le_trans (Int.ofNat_le.mpr h) (by decide)
theorem ts_4 {l : Pcs} (h : 0 < l.length) : 1 ≤ ((tsV l).length : Int) := by rw [tsV_len]; exact Int.ofNat_le.mpr h
inductive WkA (H : HP) (p : Nat) (cs : List Int) (sp : Int) (bs : List Bool) (lc0 : Loc) : V → Loc → HP → Prop
 | mk (bar : Bool) (sp1 rs1 : Int) (h : bar = true → false ∈ bs) (s : Sp sp sp1 1) : WkA H p cs sp bs lc0 (.bool bar) lc0 (H.set p (penO cs sp1 rs1))
inductive WkB (H : HP) (bs : List Bool) (bar : Bool) (lc0 : Loc) : V → Loc → HP → Prop
 | mk (wt : List Bool) (w1 : wt.length = 128) (w2 : chg wt ≤ 8) (w3 : ∀ c : Int, 0 ≤ c → c ≤ 127 → bit wt c.toNat = (bit bs c.toNat != bar)) : WkB H bs bar lc0 (.lst (wt.map .bool)) lc0 H
structure LK (p q : Nat) (bar : Bool) (lc : Loc) : Prop where
 v1 : lc.lookup (S "pen") = some (.ref p)
 v2 : lc.lookup (S "pieces") = some (.ref q)
 v3 : lc.lookup (S "is_barred") = some (.bool bar)
section
variable (hp0 : HP) (p n q : Nat) (cs : List Int) (sp : Int) (wt : List Bool) (bar : Bool)
inductive Wk1 (ns : List (List Nat)) (i : Nat) (lc : Loc) (hp : HP) : Prop
 | mk (v : LK p q bar lc) (l : Pcs) (lf : List Bool) (nm : Option V) (sp2 rs2 : Int) (Q : CS hp0 hp p n q (penO cs sp2 rs2) wt lf nm (tsV l)) (l1 : lf.length = 128) (PI : PcI wt lf l ((ns.take i).map lenC).sum i) (t : Sp sp sp2 (i + 1))
inductive Wk2 (lf : List Bool) (nm : Option V) (l0 : Pcs) (i : Nat) (lc : Loc) (hp : HP) : Prop
 | mk (v : LK p q bar lc) (l : Pcs) (t : List (Int × Int)) (sp2 rs2 : Int) (Q : CS hp0 hp p n q (penO cs sp2 rs2) wt lf nm (tsV l)) (P : Pc2 l0 l t) (lt : t.length = 2 * i) (hu : ∀ c, U t c ↔ U ((spsP lf).take i) c) (u : Sp sp sp2 (13 + 7 * i))
inductive Wk3 (lf : List Bool) (nm : Option V) (l0 : Pcs) (t pr : List (Int × Int)) (m i : Nat) (lc : Loc) (hp : HP) : Prop
 | mk (v : LK p q bar lc) (l : Pcs) (sp2 rs2 : Int) (Q : CS hp0 hp p n q (penO cs sp2 rs2) wt lf nm (tsV l)) (P : Pc2 l0 l (t ++ pr.take i)) (u : Sp sp sp2 (m + 3 * i))
end
inductive TwoAt (pr : List (Int × Int)) (j : Nat) : V → Prop
 | mk (a b : Nat) (ab : a ≤ b) (b7 : b < 128) (hj : pr.take (j + 1) = pr.take j ++ [((a : Int), (b : Int))]) (hj2 : j < 2) : TwoAt pr j (.tup [.int a, .int b])
theorem two_at {x m z : Int} {j : Nat} {y : V} (b1 : 0 ≤ x) (b3 : 0 ≤ z) (b4 : z ≤ 127) (d0 : 0 ≤ m - x) (d9 : m - x < z - x + 1) (hy : [V.tup [.int x, .int m], .tup [.int m, .int z]][j]? = some y) : TwoAt [(x, m), (m, z)] j y := by
 match j, hy with
 | 0, hy =>
  obtain rfl : V.tup [.int x, .int m] = y := by simpa using hy
  have e1 : ((x.toNat : Nat) : Int) = x := by exact oa0 b1
  have e2 : ((m.toNat : Nat) : Int) = m := by exact od0 b1 d0
  have k := TwoAt.mk (pr := [(x, m), (m, z)]) (j := 0) x.toNat m.toNat (by exact ov1 d0) (by exact oe4 d9 b4) (by rw [e1, e2]; rfl) (by decide)
  rw [e1, e2] at k
  exact k
 | 1, hy =>
  obtain rfl : V.tup [.int m, .int z] = y := by simpa using hy
  have e1 : ((z.toNat : Nat) : Int) = z := by exact oa0 b3
  have e2 : ((m.toNat : Nat) : Int) = m := by exact od0 b1 d0
  have k := TwoAt.mk (pr := [(x, m), (m, z)]) (j := 1) m.toNat z.toNat (by exact oa2 d9) (by exact ob0 b4) (by rw [e1, e2]; rfl) (by decide)
  rw [e1, e2] at k
  exact k
 | j + 2, hy => simp at hy
section
variable {C : Fm} {x : HP → Prop} {lc : Loc} {hp : HP} {k : V → Loc → HP → Prop} {p : Nat}
theorem OpCmp.inBL {l : List Bool} {b : Bool} (h : k (.bool (decide (b ∈ l))) lc hp) : OpCmp C .In (.bool b) (.lst (l.map .bool)) k x lc hp := by
 refine OpCmp.inL IsLst.f (lay_bools l) rfl ?_ rfl rfl ?_
 ·intro y hy
  obtain ⟨a, _, rfl⟩ := List.mem_map.mp hy
  rfl
 ·rw [any_bools]; exact h
theorem OpCmp.notInBL {l : List Bool} {b : Bool} (h : k (.bool (!decide (b ∈ l))) lc hp) : OpCmp C .NotIn (.bool b) (.lst (l.map .bool)) k x lc hp := by
 refine OpCmp.notInL IsLst.f (lay_bools l) rfl ?_ rfl rfl ?_
 ·intro y hy
  obtain ⟨a, _, rfl⟩ := List.mem_map.mp hy
  rfl
 ·rw [any_bools]; exact h
theorem c_spelledS {a : Int} {N : Nat} {cs : List Int} {sp rs : Int} (e : hp p = some (penO cs sp rs)) (hc : cs.length ≤ 48) (h2 : Sp a sp N) (hN : N ≤ 10000) (n : Nat) (hn : n < 128) (hrm : 3 ≤ C.rm) (h : ∀ s sp' rs', SpL n s → Sp a sp' (N + 1) → k (.str s) lc (hp.set p (penO cs sp' rs'))) :
  OpCall C (.ref 954) [.ref p, .int n] k x lc hp := by
 have e2 : hp.set p (penO cs sp rs) = hp := HP.set_same e
 rw [← e2]
 exact c_spelled cs sp rs hc h2.nn (h2.lt hN) n hn n rfl hrm fun s sp' rs' a b c => h s sp' rs' a (h2.add b c)
theorem SE.cut {e : PySem.Expr} {P : V → Loc → HP → Prop} (h : SE C e P x lc hp) (h2 : ∀ v lc' hp', P v lc' hp' → k v lc' hp') : SE C e k x lc hp := Tri.mono h h2 fun _ q => q
example : True := by
 k_with "hp" => (with_reducible first | exact CS.c0 (by assumption) | exact CS.c1 (by assumption) | exact CS.c2 (by assumption) | exact CS.c3 (by assumption) | exact CS.cq (by assumption) | exact C4.c0 (by assumption) | exact C4.c1 (by assumption) | exact C4.c2 (by assumption) | exact C4.c3 (by assumption) | fail)
 k_with "sz" => (first | (with_reducible first | exact ts_1 (by assumption) | exact ts_2 (by assumption) | exact le_128 (by assumption) | exact st_1 (by assumption) | exact st_2 (by assumption) (by assumption) | exact nm_1 (by assumption) | exact nm_2 (by assumption)) | exact cl_1 (by assumption) | exact cl_2 (by assumption) (by assumption) | exact cl_3 (by assumption) (by assumption) | fail)
 k_with "o" => (with_reducible first | exact ts_2 (by assumption) | exact ts_1 (by assumption) | exact le_128 (by assumption) | fail)
 trivial
theorem c_law_class (cs : List Int) (sp rs : Int) (hc : cs.length ≤ 48) (h1 : 0 ≤ sp) (h2 : sp ≤ 900000) (hrm : 5 ≤ C.rm) (bs : List Bool) (hb : bs.length = 128) (hch : chg bs ≤ 8) (hsome : spsP bs ≠ []) (hnp : ∀ n, (∀ c, n ≤ c → (hp.set p (penO cs sp rs)) c = none) → p < n)
  (h : ∀ bar l sp' rs', ClsT bs bar l → (clsX bar l).length ≤ 10000 → 0 ≤ sp' → sp' ≤ sp + 200 → k (.str (clsX bar l)) lc (hp.set p (penO cs sp' rs'))) :
  OpCall C (.ref 959) [.ref p, .lst (bs.map .bool), wV] k x lc (hp.set p (penO cs sp rs)) := by
 refine OpCall.fnCD 4 (fn_959 _) rfl (fun n y hy => ?_) (fun n => ?_) (by walk_at "o") fun C' n hC hn => ?_
 ·simp only [List.mem_cons, List.not_mem_nil, or_false] at hy
  rcases hy with rfl | rfl | rfl
  ·exact .inl (by kernel_rfl)
  ·exact .inl (by kernel_rfl)
  ·refine .inr ⟨by kernel_rfl, ?_⟩
   rw [show cellsFrom n (fd "_law_class" "_law_class" (mi 71) 3 N N N (s "law_pq0578_01" 1482) (r 958) N 0 none).scope.names [] = [(S "name", n + 3), (S "left", n + 2), (S "wanted", n + 1), (S "words", n)] from by kernel_rfl]
   kernel_rfl
 ·rw [show cellsFrom n (fd "_law_class" "_law_class" (mi 71) 3 N N N (s "law_pq0578_01" 1482) (r 958) N 0 none).scope.names [] = [(S "name", n + 3), (S "left", n + 2), (S "wanted", n + 1), (S "words", n)] from by kernel_rfl]
  show [S "name", S "left", S "wanted", S "words"].Nodup
  decide +kernel
 have ec : cellsFrom n (fd "_law_class" "_law_class" (mi 71) 3 N N N (s "law_pq0578_01" 1482) (r 958) N 0 none).scope.names [] = [(S "name", n + 3), (S "left", n + 2), (S "wanted", n + 1), (S "words", n)] := by kernel_rfl
 rw [ec] at hC ⊢
 have hpn := hnp n hn
 show SXs C' _ _ _ [(S "pen", .ref p), (S "held", .lst (bs.map .bool))] (((((hp.set p (penO cs sp rs)).set n (.cell (some wV))).set (n + 1) (.cell none)).set (n + 2) (.cell none)).set (n + 3) (.cell none))
 have hrm := hC.rm
 replace h : ∀ bar l sp' rs', ClsT bs bar l → (clsX bar l).length ≤ 10000 → 0 ≤ sp' → sp' ≤ sp + 200 → k (.str (clsX bar l)) lc ((hp.set p (penO cs sp rs)).set p (penO cs sp' rs')) := fun bar l sp' rs' b1 b2 b3 b4 => by
  rw [HP.set_set]; exact h bar l sp' rs' b1 b2 b3 b4
 have B := AmbC.of hn hpn
 have hpp : (hp.set p (penO cs sp rs)) p = some (penO cs sp rs) := HP.set_get ..
 generalize hp.set p (penO cs sp rs) = hp0 at *
 have G := C4.init B hpp
 generalize (((hp0.set n (.cell (some wV))).set (n + 1) (.cell none)).set (n + 2) (.cell none)).set (n + 3) (.cell none) = H at G ⊢
 walk1
 walk1
 have h0 : Sp sp sp 0 := ⟨h1, by rw [Int.natCast_zero, Int.add_zero]; exact Int.le_refl _, h2⟩
 refine SE.cut (P := WkA H p cs sp bs [(S "pen", .ref p), (S "held", .lst (bs.map .bool))]) ?_ ?_
 ·repeat walk1
  refine c_drawS 2 G.g.fp hc h0 (by decide) (by decide) (by decide) (by walk_at "o") fun d sp1 rs1 d0 d9 s0 => ?_
  repeat walk1
  ·refine ⟨⟨bs.map .bool, notF, fun _ => true, .inl rfl, by rw [List.length_map]; exact ol3 hb, fun C2 hp2 y h2 lq hy => ?_, ?_⟩⟩
   ·obtain ⟨b, _, rfl⟩ := List.mem_map.mp hy
    repeat walk1
    refine ⟨rfl, rfl, fun _ => ?_⟩
    repeat walk1
    exact ⟨rfl, rfl⟩
   ·rw [not_map]
    refine OpCmp.inBL ?_
    refine WkA.mk _ sp1 rs1 (fun z => ?_) s0
    simpa using z
  ·intro q
   exact WkA.mk _ sp1 rs1 (fun z => absurd z q) s0
 rintro v lc' hp' ⟨bar, sp1, rs1, hbar, s0⟩
 clear h0
 replace G := G.setp (pen' := penO cs sp1 rs1) B
 generalize H.set p (penO cs sp1 rs1) = H1 at G ⊢
 walk1
 walk1
 walk1
 refine SE.cut (P := WkB H1 bs bar [(S "is_barred", .bool bar), (S "pen", .ref p), (S "held", .lst (bs.map .bool))]) ?_ ?_
 ·repeat walk1
  ·rename_i hq
   refine ⟨⟨bs.map .bool, notF, fun _ => true, .inl rfl, by rw [List.length_map]; exact ol3 hb, fun C2 hp2 y h2 lq hy => ?_, ?_⟩⟩
   ·obtain ⟨b, _, rfl⟩ := List.mem_map.mp hy
    repeat walk1
    refine ⟨rfl, rfl, fun _ => ?_⟩
    repeat walk1
    exact ⟨rfl, rfl⟩
   ·rw [not_map]
    refine WkB.mk _ (by rw [List.length_map]; exact hb) (by have := chg_not bs hb; exact or9 this hch) fun c c0 c1 => ?_
    unfold bit
    rw [hq, List.getD_eq_getElem?_getD, List.getD_eq_getElem?_getD, List.getElem?_map, List.getElem?_eq_getElem (tn_lt hb c0 c1)]
    simp
  ·intro hq
   repeat walk1
   refine WkB.mk _ hb hch fun c c0 c1 => ?_
   rw [Bool.eq_false_iff.mpr hq]
   simp
 rintro v lc' hp' ⟨wt, w1, w2, w3⟩
 walk1
 replace G := G.set1 (v := some (.lst (wt.map .bool))) B
 generalize H1.set (n + 1) (.cell (some (.lst (wt.map .bool)))) = H2 at G ⊢
 walk1
 refine SX.assignTup ?_ (by unfold swapsWithSole; kernel_rfl) (by unfold swappedStores Env.blockKind Env.kindOf; rw [hC.sc]; kernel_rfl)
 repeat walk1
 refine OpNewList.mk (by rw [sizeLine_eq]; decide) fun q hq => ?_
 have A := G.amb B hq
 replace G := G.setq (ob := .list []) A
 have aq : (H2.set q (.list [])) q = _ := HP.set_get ..
 generalize H2.set q (.list []) = H3 at G aq ⊢
 repeat walk1
 replace G := G.fin (lf := wt) A aq
 clear aq
 generalize H3.set (n + 2) (.cell (some (.lst (wt.map .bool)))) = H4 at G ⊢
 repeat walk1
 refine OpCall.sortedD IsDct.f (by decide +kernel) (by decide +kernel) (by decide +kernel) fun ns hns => ?_
 have hnl : ns.length = 12 := hns.length_eq
 refine ⟨⟨ns.map .str, Wk1 hp0 p n q cs sp wt bar ns, .inl rfl, Wk1.mk ⟨by walk_at "lk", by walk_at "lk", by walk_at "lk"⟩ [] wt none sp1 rs1 G w1 (PcI.start wt) s0, ?_, ?_⟩⟩
 ·clear G
  rintro i y lc' hp' hy ⟨⟨v1, v2, v3⟩, l, lf, nm0, sp2, rs2, Q, l1, PI, t0⟩
  obtain ⟨hi, e⟩ := List.getElem?_eq_some_iff.mp hy
  rw [List.length_map] at hi
  rw [List.getElem_map] at e
  subst e
  have hi12 : i < 12 := by exact ot7 hnl hi
  have hnm : ns[i]? = some ns[i] := List.getElem?_eq_getElem hi
  have hm : ns[i] ∈ wK := hns.mem_iff.mp (List.getElem_mem hi)
  have hst := sum_take hnm
  generalize ns[i] = nm at hnm hm hst ⊢
  obtain ⟨ws, hz, hws⟩ := lookD_zip (ws := wI) hm rfl
  obtain ⟨cp, hW⟩ := wd_ok hz
  have hwl : ws.length ≤ 128 := wz_len _ hz
  clear hy hnm hm hz
  walk1
  walk1
  replace Q := Q.setn (nm' := some (.str nm)) A
  generalize hp'.set (n + 3) (.cell (some (.str nm))) = H5 at Q ⊢
  repeat walk1
  refine c_drawS 3 Q.g.fp hc t0 (i_a hi12) (by decide) (by decide) (by walk_at "o") fun d sp3 rs3 d0 d9 u0 => ?_
  replace Q := Q.setp (pen' := penO cs sp3 rs3) A
  generalize H5.set p (penO cs sp3 rs3) = H6 at Q ⊢
  repeat walk1
  ·refine OpSub.dict IsDct.f (by decide +kernel) hws ?_
   refine ⟨⟨ws.map .int, tabF fun c => bit wt c.toNat, fun _ => true, .inl rfl, by rw [List.length_map]; exact ow7 hwl, fun C2 hp2 y h2 lq hy => ?_, ?_⟩⟩
   ·obtain ⟨c, hc2, rfl⟩ := List.mem_map.mp hy
    obtain ⟨r1, r2⟩ := hW.bd c hc2
    have g1 := lq (n + 1) _ Q.c1
    repeat walk1
    refine ⟨rfl, rfl, fun _ => ?_⟩
    repeat walk1
    exact OpSub.lst IsLst.f (by rw [List.length_map]; exact oh2 w1) (at_bool (bs := wt) r1 (lt_128 w1 r2)) ⟨rfl, rfl⟩
   ·rw [tab_ints]
    refine OpCmp.notInBL ?_
    repeat walk1
    ·rename_i hs
     have hs : ∀ c ∈ ws, bit wt c.toNat = true := fun c hc2 => by
      cases z : bit wt c.toNat with
      | true => rfl
      | false =>
       have : false ∈ ws.map fun c => bit wt c.toNat := List.mem_map.mpr ⟨c, hc2, z⟩
       rw [decide_eq_true this] at hs
       cases hs
     have hnl6 := hW.le
     have hcl : l.length ≤ 40 := Nat.le_trans PI.cnt (Nat.le_trans (Nat.le_of_lt hi12) (by decide))
     repeat walk1
     rw [← tsV_app l (L "[:" ++ nm ++ L ":]") cp]
     replace Q := Q.sett (ts' := tsV (l ++ [(L "[:" ++ nm ++ L ":]", cp)])) A
     generalize H6.set q (.list (tsV (l ++ [(L "[:" ++ nm ++ L ":]", cp)]))) = H7 at Q ⊢
     refine SX.assign ?_ (by unfold swapsWith Env.blockKind Env.kindOf; rw [hC.sc]; kernel_rfl)
     repeat walk1
     refine ⟨⟨(rngI 0 128).map .int, tabF fun c => bit lf c.toNat && !decide (c ∈ ws), fun _ => true, .inr (.inr ⟨0, 128, rfl, (rng_int 0 128).symm, by decide⟩), by decide, fun C2 hp2 y h2 lq hy => ?_, ?_⟩⟩
     ·obtain ⟨i2, hi2, rfl⟩ := List.mem_map.mp hy
      have g0 := lq n _ Q.c0
      have g2 := lq (n + 2) _ Q.c2
      have g3 := lq (n + 3) _ Q.c3
      obtain ⟨r1, r2⟩ := rngI_mem hi2
      clear hi2 hy
      repeat walk1
      refine ⟨rfl, rfl, fun _ => ?_⟩
      repeat walk1
      refine OpSub.lst IsLst.f (by rw [List.length_map]; exact oh2 l1) (at_bool (bs := lf) r1 (lt_129 l1 r2)) ?_
      cases hq : bit lf i2.toNat with
      | true =>
       repeat walk1
       refine OpSub.dict IsDct.f (by decide +kernel) hws ?_
       refine OpCmp.notInIL ?_
       exact ⟨⟨rfl, by show V.bool _ = .bool (bit lf i2.toNat && _); rw [hq]; rfl⟩⟩
      | false =>
       repeat walk1
       exact ⟨⟨rfl, by show V.bool false = .bool (bit lf i2.toNat && _); rw [hq]; rfl⟩⟩
     ·rw [tab_map]
      have PI2 := PI.named hW hs
      repeat walk1
      replace Q := Q.setl (lf' := tab fun c => bit lf c.toNat && !decide (c ∈ ws)) A
      exact Wk1.mk ⟨v1, v2, v3⟩ _ _ _ sp3 rs3 Q (tab_len _) (by rw [hst]; exact PI2) u0
    ·intro _
     repeat walk1
     exact Wk1.mk ⟨v1, v2, v3⟩ _ _ _ sp3 rs3 Q l1 (by rw [hst]; exact PI.mono (Nat.le_add_right ..) (Nat.le_succ _)) u0
  ·intro _
   repeat walk1
   exact Wk1.mk ⟨v1, v2, v3⟩ _ _ _ sp3 rs3 Q l1 (by rw [hst]; exact PI.mono (Nat.le_add_right ..) (Nat.le_succ _)) u0
 ·clear G
  rintro lc' hp' ⟨⟨v1, v2, v3⟩, l0, lf, nm, sp2, rs2, Q, l1, PI, t0⟩
  have hch2 := PI.chg
  rw [List.length_map, hnl] at PI t0
  rw [List.take_of_length_le (Nat.le_of_eq hnl), sum_len hns] at PI
  have hS := i_s (sps_len lf) hch2 w2
  clear hch2
  have hinb := sps_inb lf
  have hws := sps_ws lf
  repeat walk1
  refine c_law_spans lf l1 (by walk_at "o") ?_
  refine ⟨⟨(spsP lf).map prV, Wk2 hp0 p n q cs sp wt bar lf nm l0, .inl rfl, Wk2.mk ⟨v1, v2, v3⟩ l0 [] sp2 rs2 Q (Pc2.start PI.pc) rfl (fun c => Iff.rfl) t0, ?_, ?_⟩⟩
  ·clear Q v1 v2 v3
   rintro i y lc' hp' hy ⟨⟨v1, v2, v3⟩, l, t, sp3, rs3, Q, P2, lt, hu, u0⟩
   obtain ⟨pp, hpp, rfl⟩ := getMap hy
   have hut := U_take hpp
   have hpm := List.mem_of_getElem? hpp
   have hi : i < 12 := Nat.lt_of_lt_of_le (List.getElem?_eq_some_iff.mp hpp).1 hS
   obtain ⟨b1, b2, b3, b4⟩ := hinb pp hpm
   have b5 := hws.le pp hpm
   clear hy hpm
   show OpAssign C' _ (.tup [.int pp.1, .int pp.2]) _ _ _ _
   repeat walk1
   refine c_drawS (pp.2 - pp.1 + 1) Q.g.fp hc u0 (i_b hi) (wd_2 b5) (wd_1 b1 b4) (by walk_at "o") fun d sp4 rs4 d0 d9 x0 => ?_
   replace Q := Q.setp (pen' := penO cs sp4 rs4) A
   generalize hp'.set p (penO cs sp4 rs4) = H5 at Q ⊢
   obtain ⟨mid, rfl⟩ : ∃ mid, d = mid - pp.1 := ⟨d + pp.1, by exact oz1⟩
   repeat walk1
   rw [show pp.1 + (mid - pp.1) = mid by exact ox1]
   refine OpNewList.fz (by simp [sizeLine_eq]) ?_
   refine ⟨⟨_, Wk3 hp0 p n q cs sp wt bar lf nm l0 t [(pp.1, mid), (mid, pp.2)] (13 + 7 * i + 1), .inl rfl, Wk3.mk ⟨by walk_at "lk", by walk_at "lk", by walk_at "lk"⟩ l sp4 rs4 Q (by rw [List.take_zero, List.append_nil]; exact P2) x0, ?_, ?_⟩⟩
   ·clear Q v1 v2 v3 P2
    rintro j y lc' hp' hy ⟨⟨v1, v2, v3⟩, l2, sp5, rs5, Q, P2, y0⟩
    obtain ⟨a, b, ab, b7, hj, hj2⟩ := two_at b1 b3 b4 d0 d9 hy
    clear hy
    have hij := i_c hi hj2
    have cl : l2.length ≤ 40 := by
     have := P2.cnt
     rw [List.length_append, lt, List.length_take] at this
     exact i_m this hi hj2 PI.cnt
    have fin : ∀ (lc2 : Loc) (H9 : HP) (sp9 rs9 : Int) (s : List Nat), CS hp0 H9 p n q (penO cs sp9 rs9) wt lf nm (tsV (l2 ++ [(s, [((a : Int), (b : Int))])])) → LK p q bar lc2 → Pce s [((a : Int), (b : Int))] ∧ s.length ≤ 10 → Sp sp sp9 (13 + 7 * i + 1 + 3 * j + 3) →
      Wk3 hp0 p n q cs sp wt bar lf nm l0 t [(pp.1, mid), (mid, pp.2)] (13 + 7 * i + 1) (j + 1) lc2 H9 := fun lc2 H9 sp9 rs9 s q1 q2 q5 q6 =>
     Wk3.mk q2 _ sp9 rs9 q1 (by rw [hj, ← List.append_assoc]; exact P2.add q5.1 q5.2) q6
    repeat walk1
    refine c_spelledS Q.g.fp hc y0 (Nat.le_trans hij (by decide)) a (Nat.lt_of_le_of_lt ab b7) (by walk_at "o") fun s sp6 rs6 hs z0 => ?_
    replace Q := Q.setp (pen' := penO cs sp6 rs6) A
    generalize hp'.set p (penO cs sp6 rs6) = H6 at Q ⊢
    have hs4 := hs.le4
    iterate 8 walk1
    refine SE.ifexp ?_
    refine ST.and ?_
    repeat walk1
    ·rename_i hab
     obtain rfl : a = b := by have := beq_iff_eq.mp hab; exact og5 this
     refine c_drawS 2 Q.g.fp hc z0 (n_1 hij) (by decide) (by decide) (by walk_at "o") fun e sp7 rs7 e0 e9 x2 => ?_
     replace Q := Q.setp (pen' := penO cs sp7 rs7) A
     generalize H6.set p (penO cs sp7 rs7) = H7 at Q ⊢
     repeat walk1
     ·rw [← tsV_app]
      exact fin _ _ sp7 rs7 s (Q.sett A) ⟨by walk_at "lk", by walk_at "lk", by walk_at "lk"⟩ (pce_one b7 hs) (x2.mono (Nat.le_add_right _ 1))
     ·intro _
      repeat walk1
      refine c_spelledS Q.g.fp hc x2 (n_2 hij) a b7 (by walk_at "o") fun s2 sp8 rs8 hs2 z2 => ?_
      replace Q := Q.setp (pen' := penO cs sp8 rs8) A
      generalize H7.set p (penO cs sp8 rs8) = H8 at Q ⊢
      have hs5 := hs2.le4
      repeat walk1
      rw [← tsV_app]
      exact fin _ _ sp8 rs8 _ (Q.sett A) ⟨by walk_at "lk", by walk_at "lk", by walk_at "lk"⟩ (pce_two b7 b7 (Nat.le_refl _) hs hs2) z2
    ·intro _
     repeat walk1
     refine c_spelledS Q.g.fp hc z0 (n_1 hij) b b7 (by walk_at "o") fun s2 sp8 rs8 hs2 z2 => ?_
     replace Q := Q.setp (pen' := penO cs sp8 rs8) A
     generalize H6.set p (penO cs sp8 rs8) = H8 at Q ⊢
     have hs5 := hs2.le4
     repeat walk1
     rw [← tsV_app]
     exact fin _ _ sp8 rs8 _ (Q.sett A) ⟨by walk_at "lk", by walk_at "lk", by walk_at "lk"⟩ (pce_two (Nat.lt_of_le_of_lt ab b7) b7 ab hs hs2) (z2.mono (Nat.le_add_right _ 1))
   ·rintro lc' hp' ⟨⟨v1, v2, v3⟩, l2, sp5, rs5, Q, P2, y0⟩
    repeat walk1
    refine Wk2.mk ⟨v1, v2, v3⟩ l2 _ sp5 rs5 Q P2 ?_ (fun c => ?_) y0
    ·rw [List.length_append, lt]; simp only [List.length_cons, List.length_nil, List.take_succ_cons, List.take_zero]; exact oz4
    ·rw [U_app, hu c, hut c]
     show _ ∨ U [(pp.1, mid), (mid, pp.2)] c ↔ _
     rw [U_cons, U_one]
     dsimp only
     constructor
     ·rintro (z | ⟨z1, z2⟩ | ⟨z1, z2⟩)
      ·exact .inl z
      ·exact .inr ⟨z1, by exact ow1 z2 d9⟩
      ·exact .inr ⟨by exact oo2 d0 z1, z2⟩
     ·rintro (z | ⟨z1, z2⟩)
      ·exact .inl z
      ·by_cases w : c ≤ mid
       ·exact .inr (.inl ⟨z1, w⟩)
       ·exact .inr (.inr ⟨by exact od2 w, z2⟩)
  ·clear Q v1 v2 v3
   rintro lc' hp' ⟨⟨v1, v2, v3⟩, l, t, sp3, rs3, Q, P2, lt, hu, u0⟩
   rw [List.length_map] at lt u0 hu
   rw [List.take_of_length_le (Nat.le_refl _)] at hu
   have c1 := i_l lt P2.cnt hS PI.cnt
   obtain ⟨hln, hfin⟩ := cls_fin (bs := bs) (bar := bar) PI P2.pc c1 (i_f lt P2.few hS PI.few) (fun c => by rw [P2.u c, hu c]) w3 (hne_of hb hbar hsome w3)
   have c2 : l.length ≤ 40 := Nat.le_trans c1 (by decide)
   have hlp : 0 < l.length := List.length_pos_iff.mpr hln
   repeat walk1
   refine c_drawS (tsV l).length Q.g.fp hc u0 (Nat.le_trans (Nat.add_le_add_left (Nat.mul_le_mul_left 7 hS) 13) (by decide)) (ts_4 hlp) (ts_3 c2) (by walk_at "o") fun d sp4 rs4 d0 d9 x0 => ?_
   replace Q := Q.setp (pen' := penO cs sp4 rs4) A
   generalize hp'.set p (penO cs sp4 rs4) = H5 at Q ⊢
   have hbl : (if bar = true then L "^" else L "").length ≤ 1 := by split <;> decide
   repeat walk1
   refine OpSlice.lst (IsLst.m Q.cq) (nn_some d0) nn_none (ts_1 c2) ?_
   repeat walk1
   refine OpSlice.lst (IsLst.m Q.cq) nn_none (nn_some d0) (ts_1 c2) ?_
   rw [show cut (some d) none (tsV l) = tsV (l.drop d.toNat) by unfold cut tsV; rw [List.map_drop, List.map_drop], show cut none (some d) (tsV l) = tsV (l.take d.toNat) by unfold cut tsV; rw [List.map_take, List.map_take, List.drop_zero]]
   obtain ⟨hf1, hf2⟩ := hfin d.toNat
   have hll : (l.drop d.toNat ++ l.take d.toNat).length = l.length := by rw [List.length_append, List.length_drop, List.length_take]; exact og0
   refine OpBin.addL IsLst.f IsLst.f (by rw [tsV_len, tsV_len, ← List.length_append, hll]; exact Nat.le_trans c1 (by decide)) ?_
   rw [show tsV (l.drop d.toNat) ++ tsV (l.take d.toNat) = ((l.drop d.toNat ++ l.take d.toNat).map (·.1)).map .str by unfold tsV; rw [List.map_append, List.map_append]]
   generalize l.drop d.toNat ++ l.take d.toNat = m at hf1 hf2 hll ⊢
   have hfl : (m.map (·.1)).flatten.length ≤ 10000 := by
    unfold clsX at hf2
    rw [List.length_append, List.length_append] at hf2
    exact om3 hf2
   walk1
   refine OpCall.joinL IsLst.f (by rw [← List.length_flatten, List.length_map]; rw [hll]; exact Nat.le_trans (Nat.add_le_add hfl c1) (by decide)) ?_
   repeat walk1
   refine ⟨⟨_, Q.g.hple, h bar m sp4 rs4 hf1 hf2 x0.nn (x0.fin (Nat.le_trans (Nat.succ_le_succ (Nat.add_le_add_left (Nat.mul_le_mul_left 7 hS) 13)) (by decide)))⟩⟩
end
end
section
theorem loose_eq : looseW qv loosev = loosev := by kernel_rfl
structure TopC (W : Wd) (sc : Scope) (C : Fm) : Prop where
 W : C.W = W
 sc : C.env.scope = sc
 cl : C.env.cells = []
 rm : C.rm = 60
 top : C.top = true
noncomputable def LawB : Prop := ∀ (W : Wd) (C : Fm) (ss : List Int), TopC W (fS (mi 74)) C → ss.length ≤ 63 → SXs C (fB (mi 74)) (fun fl _ _ => Done (retV fl = .bool true)) (fun _ => False) [(S "script", .lst (ss.map .int))] (fun _ => none)
theorem denL_ints {W : Wd} {Z : Led} : ∀ {l : List Int} {vs : List Value}, IntsAre vs l → denL W Z (l.map .int) vs := by
 intro l vs h
 induction h with
 | nil => rfl
 | cons => exact ⟨_, _, rfl, ⟨_, rfl⟩, by assumption⟩
theorem top_call (hB : LawB) : WalkO qv loosev (XL qv []) HK.says rw0.row.toRowW dlaw [] fun f vs => PySem.call f vs := by
 intro w s₀ s₁ mg mb G Y fa o pm cd doc dV kV ho hd hcd hD hmg hg args vals as hpre hlay hrd hwl hlo
 have KX : (K w.params).In s₁.heap := kIn_of Y
 refine Ground.open G ?_
 intro T B D TE TW
 rw [loose_eq] at T
 wrow_args hpre hlay hrd hwl hlo
 rename_i ss _ _ _ _ _ _ _ la lv _ hL _ _ _ hI _ hlen _
 have he := Dflts.none hD rfl
 subst he
 have he := Dflts.noKw hD
 subst he
 refine enter_call ?_
 refine codeAny_mono ?_ (fun _ _ g => GoodW.toG g)
 refine call_fullW (by decide) ho hd (Top.nolimit T) hcd (BindsTo.of_eq (binds := [(S "script", .ref la)]) (by kernel_rfl)) (fun y hy => by obtain rfl := List.mem_singleton.mp hy; kernel_rfl) (fun h₁ F => ?_) (by kernel_rfl) (by kernel_rfl) (by kernel_rfl) (by decide +kernel)
 let W : Wd := ⟨w, s₁.heap, ExcName.means s₀.heap, mg, mb⟩
 let env : Env := envOf dlaw.name dlaw.scope s₁.heap.objs.size fa cd
 let C : Fm := { W := W, A := callerA.deeper env, env := env, L := s₁.heap.objs.size, fenv := [env], prot := [], rm := 60, top := true }
 have ok : FmOk C := ⟨⟨KX, T⟩, by kernel_rfl, rfl, rfl, rfl, rfl, rfl, fun _ => rfl, fun _ => ⟨_, rfl⟩, fun e he => by
  obtain rfl := List.mem_singleton.mp he
  exact ⟨by kernel_rfl, _, rfl, .inl rfl⟩, (by show callerA.depth + 1 + 60 < recursionLimit; decide), (by show callerA.units + 3 + 8 * 60 + 100 < cLine; decide)⟩
 have R : Rel C [] [(S "script", .lst (ss.map .int))] (fun _ => none) h₁ := by
  refine ⟨_, [], [], ⟨F, ?_, ?_, ?_, ?_, ?_⟩, ?_⟩
  ·exact fun p hp => by cases hp
  ·exact List.nodup_nil
  ·exact fun p hp => by cases hp
  ·exact rfl
  ·exact fun a o e => by cases e
  ·intro y v e
   simp only [List.reverse_cons, List.reverse_nil, List.nil_append, List.lookup_cons, List.lookup_nil] at e ⊢
   cases hy : y == S "script" with
   | false => rw [hy] at e; cases e
   | true =>
    rw [hy] at e
    obtain rfl : V.lst (ss.map .int) = v := by injection e
    obtain ⟨ol, g1, g2, nn, g3⟩ := hL
    refine ⟨_, rfl, la, ol, _, _, rfl, .inl g1, g2, g3, ?_⟩
    exact denL_ints hI
 have hb := hB W C ss ⟨rfl, rfl, rfl, rfl, rfl⟩ (by exact ob14 hlen)
 refine hb [] _ _ _ [] ok R rfl ?_ ?_
 ·intro Z' fl fv lc' hp' s' z' r' R1 sm kk
  have kk := kk.out
  obtain ⟨h9, t9, rfl⟩ := sm
  obtain ⟨m9, mu9, fo9, X9, _⟩ := R1
  obtain rfl : fv = .ret (.bool true) := by
   cases fl with
   | ret v =>
    obtain ⟨u, rfl, du⟩ := r'
    obtain rfl : v = .bool true := kk
    rw [show u = .bool true from du]
   | next => cases kk
   | brk => cases kk
   | cont => cases kk
  exact goodW_bool X9.F hg (raisesW_false (by wrow_none_raised)) (by wrow_post)
 ·intro Z' e hp' s' _ _ _ xx
  exact xx.elim
end
section
noncomputable abbrev fdL : FuncData := fd "law" "law" (mi 74) 3 N N N (s "law_pq0578_01" 1482) (r 0) N 0 none
theorem TopC.cal {W : Wd} {C : Fm} (h : TopC W (fS (mi 74)) C) : Callee C C fdL 60 := ⟨rfl, h.sc, h.cl, h.rm, rfl, h.top⟩
theorem due_shaped (bs : List Bool) : SeqAt.shaped (dueV bs).pd = true := by
 unfold dueV
 split
 ·decide +kernel
 ·obtain ⟨h1, h2⟩ := lay_prs (spsP bs)
  simp only [SeqAt.shaped, V.pd, pds, PyData.canLay0, PyData.canLayAll0, PyData.depth, PyData.depthAll, Bool.and_eq_true, decide_eq_true_eq]
  exact ⟨⟨by decide +kernel, h1, trivial⟩, by exact ow4 h2⟩
theorem due_isD (bs : List Bool) : (dueV bs).isD = true := by
 unfold dueV
 split
 ·rfl
 ·simp only [V.isD, isDs, isDs_prs, Bool.and_self]
theorem due_eqv (bs : List Bool) : PyData.eqv (dueV bs).pd (dueV bs).pd = true := by
 unfold dueV
 split
 ·decide +kernel
 ·simp only [V.pd, pds, PyData.eqv, PyData.eqvAll, eqv_prs, decide_true, Bool.and_true]
  decide +kernel
section
variable {C : Fm} {x : HP → Prop} {lc : Loc} {hp : HP} {k : V → Loc → HP → Prop}
theorem OpCmp.neDue {bs : List Bool} (h : k (.bool false) lc hp) : OpCmp C .NotEq (dueV bs) (dueV bs) k x lc hp := by
 refine OpCmp.neD (IsDat.f (due_isD bs)) (IsDat.f (due_isD bs)) (due_shaped bs) (due_shaped bs) ?_
 rw [due_eqv]; exact h
theorem OpCmp.nePrsT {sp : List (Int × Int)} (h : k (.bool false) lc hp) : OpCmp C .NotEq (prs sp) (prs sp) k x lc hp := by
 refine OpCmp.neD (IsDat.f (isDs_prs sp)) (IsDat.f (isDs_prs sp)) (shaped_prs sp) (shaped_prs sp) ?_
 rw [show PyData.eqv (prs sp).pd (prs sp).pd = true by simp only [V.pd, PyData.eqv, eqv_prs]; simp]
 exact h
theorem OpCmp.neNil {sp : List (Int × Int)} (h : k (.bool (!decide (sp = []))) lc hp) : OpCmp C .NotEq (.lst (sp.map prV)) (.lst []) k x lc hp := by
 refine OpCmp.neD (IsDat.f (isDs_prs sp)) (IsDat.f rfl) (shaped_lst sp) (by decide +kernel) ?_
 have e : (!PyData.eqv (V.lst (sp.map prV)).pd (V.lst []).pd) = (!decide (sp = [])) := by
  cases sp <;> rfl
 rw [e]; exact h
end
theorem oneC_len (i : Int) : (oneC i).length ≤ 4 := by
 unfold oneC
 split
 ·split <;> decide
 ·split
  ·simp [L]
  ·split
   ·simp [hexE, L]
   ·simp
theorem lsh_len {sp : List (Int × Int)} (h : sp.length ≤ 30) : (lshP sp).length ≤ 1000 := by
 unfold lshP
 split
 ·decide
 ·split
  ·decide
  ·split
   ·have := oneC_len (sp.headD (0, 0)).1; exact oq12 this
   ·have := texS_len sp sp.length
    rw [List.take_length] at this
    rw [List.length_append, List.length_append, show (L "[").length = 1 from rfl, show (L "]").length = 1 from rfl]
    exact ok8 this h
theorem i_6 {i : Nat} (h : i < 6) : 20 + i ≤ 10000 := Nat.le_trans (Nat.add_le_add_left (Nat.le_of_lt h) 20) (by decide)
theorem h_5 {s g : Nat} (h : 2 * s ≤ g + 2) (h2 : g ≤ 8) : s ≤ 5 := by omega
theorem h_64 {s n : Nat} (h : n = 3 + 2 * s) (h2 : s ≤ 5) : n < 64 := by rw [h]; exact Nat.lt_of_le_of_lt (Nat.add_le_add_left (Nat.mul_le_mul_left 2 h2) 3) (by decide)
theorem Sp.z {b : Int} {n : Nat} (h : Sp 0 b n) (hn : n ≤ 10000) : b ≤ 900000 := by
 have := h.le
 omega
theorem Sp.z2 {b c : Int} {n : Nat} (h : Sp 0 b n) (hn : n ≤ 10000) (hc : c ≤ b + 200) : c ≤ 900000 := by
 have := h.le
 omega
theorem if_lo {a c : Int} (c0 : 0 ≤ c) : ((if (a == 0) = true then -3 else a) ≤ c) ↔ a ≤ c := by
 split
 ·rename_i q
  have := beq_iff_eq.mp q; omega
 ·exact Iff.rfl
theorem if_hi {a c : Int} (c1 : c ≤ 127) : (c ≤ if (a == 127) = true then 500 else a) ↔ c ≤ a := by
 split
 ·rename_i q
  have := beq_iff_eq.mp q; omega
 ·exact Iff.rfl
theorem no_3 {c : Int} (c0 : 0 ≤ c) (c1 : c ≤ 127) : U [(-5, -1), (140, 150), (9, 3)] c ↔ U [] c := by
 rw [U_nil, U_cons, U_cons, U_one]
 constructor
 ·rintro (⟨a, b⟩ | ⟨a, b⟩ | ⟨a, b⟩) <;> dsimp only at a b <;> omega
 ·exact False.elim
inductive WkL (p : Nat) (cs : List Int) (bs : List Bool) (i : Nat) (lc : Loc) : HP → Prop
 | mk (v1 : lc.lookup (S "pen") = some (.ref p)) (v2 : lc.lookup (S "words") = some wV) (v3 : lc.lookup (S "held") = some (.lst (bs.map .bool))) (v4 : lc.lookup (S "spans") = some (.lst ((spsP bs).map prV)))
  (ps : List (Int × Int)) (sp rs : Int) (v5 : lc.lookup (S "pairs") = some (.lst (ps.map prV))) (l1 : ps.length = 3 + 2 * i) (hu : ∀ c, 0 ≤ c → c ≤ 127 → (U ps c ↔ U ((spsP bs).take i) c)) (t : Sp 0 sp (20 + i)) : WkL p cs bs i lc (HP.set (fun _ => none) p (penO cs sp rs))
theorem law_body : LawB := by
 intro W C ss hT hl
 have hC := hT.cal
 have hrm := hC.rm
 have hct : (ss.take 48).length ≤ 48 := by rw [List.length_take]; exact ov3
 repeat walk1
 refine c_law_pen ss (by walk_at "o") (by walk_at "o") fun p hp => ?_
 generalize ss.take 48 = cs at *
 repeat walk1
 refine c_law_words (by walk_at "o") ?_
 repeat walk1
 have hnp : ∀ (pen : O) (n : Nat), (∀ c : Nat, n ≤ c → (HP.set (fun _ => none) p pen) c = none) → p < n := fun pen n hh => Nat.lt_of_not_le fun z => by
  have := hh p z
  rw [HP.set_get] at this; cases this
 refine c_law_held cs 0 0 hct (by decide) (by decide) (by walk_at "o") (hnp _) fun bs sp1 rs1 b1 b2 s0 s1 => ?_
 repeat walk1
 refine c_law_spans bs b1 (by walk_at "o") ?_
 repeat walk1
 refine OpNewList.fz (by simp [sizeLine_eq]) ?_
 repeat walk1
 have hws := sps_ws bs
 have hinb := sps_inb bs
 have hS := h_5 (sps_len bs) b2
 have s1 : Sp 0 sp1 20 := ⟨s0, s1, by decide⟩
 clear s0
 refine ⟨⟨(spsP bs).map prV, WkL p cs bs, .inl rfl, WkL.mk (by walk_at "lk") (by walk_at "lk") (by walk_at "lk") (by walk_at "lk") [(-5, -1), (140, 150), (9, 3)] sp1 rs1 (by walk_at "lk") rfl (fun c c0 c1 => no_3 c0 c1) s1, ?_, ?_⟩⟩
 ·clear s1
  rintro i y lc' hp' hy ⟨v1, v2, v3, v4, ps, sp, rs, v5, l1, hu, t0⟩
  obtain ⟨pp, hpp, rfl⟩ := getMap hy
  have hut := U_take hpp
  have hpm := List.mem_of_getElem? hpp
  have hi : i < 6 := Nat.lt_of_lt_of_le (List.getElem?_eq_some_iff.mp hpp).1 (Nat.le_succ_of_le hS)
  obtain ⟨c1, c2, c3, c4⟩ := hinb pp hpm
  have c5 := hws.le pp hpm
  clear hy hpm
  show OpAssign C _ (.tup [.int pp.1, .int pp.2]) _ _ _ _
  repeat walk1
  refine c_draw cs sp rs (pp.2 - pp.1 + 1) hct t0.nn (t0.lt (i_6 hi)) (wd_2 c5) (wd_1 c1 c4) (by walk_at "o") fun d sp2 rs2 d0 d9 x0 x1 => ?_
  replace x0 := t0.add x0 x1
  clear x1
  obtain ⟨mid, rfl⟩ : ∃ mid, d = mid - pp.1 := ⟨d + pp.1, by exact oz1⟩
  repeat walk1
  rw [show pp.1 + (mid - pp.1) = mid by exact ox1]
  refine OpNewList.fz (by simp [sizeLine_eq]) ?_
  repeat walk1
  refine OpBin.addL (la := [(mid, if (pp.2 == 127) = true then 500 else pp.2)].map prV) IsLst.f IsLst.f (by rw [List.length_map, List.length_map]; simp only [List.length_cons, List.length_nil]; exact ow6 l1 hi) ?_
  rw [← List.map_append]
  repeat walk1
  refine OpNewList.fz (by simp [sizeLine_eq]) ?_
  repeat walk1
  refine OpBin.addL (lb := [(if (pp.1 == 0) = true then -3 else pp.1, mid)].map prV) IsLst.f IsLst.f (by rw [List.length_map, List.length_map, List.length_append]; simp only [List.length_cons, List.length_nil]; exact oh7 l1 hi) ?_
  rw [← List.map_append]
  repeat walk1
  refine WkL.mk (by walk_at "lk") (by walk_at "lk") (by walk_at "lk") (by walk_at "lk") _ sp2 rs2 (by walk_at "lk") ?_ (fun c c6 c7 => ?_) x0
  ·show ((_ :: (ps ++ [_])) : List (Int × Int)).length = _
   simp only [List.length_cons, List.length_append, List.length_nil]; exact oq5 l1
  ·show U (_ :: (ps ++ [_])) c ↔ _
   rw [hut c, U_cons, U_app, U_one, hu c c6 c7]
   dsimp only
   rw [if_hi c7, if_lo c6]
   constructor
   ·rintro (⟨z1, z2⟩ | z | ⟨z1, z2⟩)
    ·exact .inr ⟨by exact oo2 d0 z1, z2⟩
    ·exact .inl z
    ·exact .inr ⟨z1, by exact ow1 z2 d9⟩
   ·rintro (z | ⟨z1, z2⟩)
    ·exact .inr (.inl z)
    ·by_cases w : c ≤ mid
     ·exact .inr (.inr ⟨z1, w⟩)
     ·exact .inl ⟨by exact od2 w, z2⟩
 ·clear s1
  rintro lc' hp' ⟨v1, v2, v3, v4, ps, sp, rs, v5, l1, hu, t0⟩
  rw [List.length_map] at l1 hu t0
  have hN : 20 + (spsP bs).length ≤ 10000 := Nat.le_trans (Nat.add_le_add_left hS 20) (by decide)
  have hz := t0.z hN
  rw [List.take_of_length_le (Nat.le_refl _)] at hu
  repeat walk1
  refine c_made ps (.inl rfl) (h_64 l1 hS) (by walk_at "o") fun qs g1 g2 => ?_
  rw [made_ok g1 g2 fun c c0 c1 => by rw [hu c c0 c1, sps_u]; exact ⟨fun z => z.2.2, fun z => ⟨c0, c1, z⟩⟩]
  iterate 3 walk1
  refine SE.cut (P := fun v lc2 hp2 => Done (v = dueV bs ∧ lc2 = (S "made", csV (spsP bs)) :: lc' ∧ hp2 = HP.set (fun _ => none) p (penO cs sp rs))) ?_ ?_
  ·refine SE.ifexp ?_
   repeat walk1
   refine OpNewList.fz (by simp [sizeLine_eq]) ?_
   refine OpCmp.neNil ?_
   repeat walk1
   ·rename_i q
    have q : ¬ spsP bs = [] := by simpa using q
    exact ⟨⟨by unfold dueV; rw [if_neg q], rfl, rfl⟩⟩
   ·intro q
    have q : spsP bs = [] := by simpa using q
    repeat walk1
    exact ⟨⟨by unfold dueV; rw [if_pos q], rfl, rfl⟩⟩
  rintro v lc2 hp2 ⟨⟨rfl, rfl, rfl⟩⟩
  repeat walk1
  refine c_show_chars (spsP bs) (Nat.le_trans hS (by decide)) hinb (by walk_at "o") ?_
  rw [show_lsh hws hinb]
  iterate 3 walk1
  refine ST.or ?_
  repeat walk1
  refine c_key (spsP bs) (by walk_at "o") ?_
  repeat walk1
  refine OpCmp.nePrsT ?_
  repeat walk1
  refine c_law_shown bs b1 hinb (by walk_at "o") ?_
  refine OpCmp.neS ?_
  rw [bne_self_eq_false]
  repeat walk1
  have hlz : (lshP (spsP bs)).length ≤ 1000 := lsh_len (Nat.le_trans hS (by decide))
  refine c_heardS (by walk_at "o") (by first | exact Nat.le_trans hlz (by decide) | walk_at "o") (by walk_at "o") ?_
  repeat walk1
  refine OpCmp.neDue ?_
  repeat walk1
  refine OpNewList.fz (by simp [sizeLine_eq]) ?_
  refine OpCmp.neNil ?_
  repeat walk1
  ·rename_i q
   have q : ¬ spsP bs = [] := by simpa using q
   refine mk_Chars (spsP bs) (by walk_at "o") ?_
   repeat walk1
   refine c_show_regex (spsP bs) (Nat.le_trans hS (by decide)) hinb (by walk_at "o") ?_
   rw [show_lsh hws hinb]
   repeat walk1
   ·rename_i z
    rw [bne_self_eq_false] at z; cases z
   ·intro _
    repeat walk1
    refine c_law_class cs sp rs hct t0.nn hz (by walk_at "o") bs b1 b2 q (hnp _) fun bar l sp3 rs3 hT hz9 x0 x1 => ?_
    repeat walk1
    refine c_heardC hT hz9 (by walk_at "o") ?_
    repeat walk1
    refine OpCmp.neDue ?_
    repeat walk1
    exact c_refused cs sp3 rs3 hct x0 (t0.z2 hN x1) (by walk_at "o") hb1 hb2 hb3 fun _ _ => ⟨rfl⟩
  ·intro q
   repeat walk1
   exact c_refused cs sp rs hct t0.nn hz (by walk_at "o") hb1 hb2 hb3 fun _ _ => ⟨rfl⟩
end
end Mine
end
set_option maxRecDepth 100000 in
theorem PySem.Challenge.cw_pq0578_01_holds : PySem.Challenge.rw_pq0578_01.Holds :=
 Mine.head0 (Mine.top_call Mine.law_body)
