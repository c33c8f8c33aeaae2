import PyProof.Rows.All
import Wide.All
import OpenK.AllK
import Wide.FinOn
import Lean
import PySem.Challenge.RW_sa0547_01
open PySem PySem.W PyProof.Rows PySem.Calls
set_option Elab.async false
namespace Mine
set_option maxRecDepth 100000
set_option maxHeartbeats 8000000
open_top hd for PySem.Challenge.rw_sa0547_01
set_option maxHeartbeats 200000

-- part F0
-- small facts of arithmetic, each once
theorem om_c63 {a : Nat} (h : a ≤ (16777216 : Nat)) : ((a : Nat) : Int) < ((2 : Int) ^ 63) := by omega
theorem om_c62 {a : Nat} (h : a ≤ (16777216 : Nat)) : ((a : Nat) : Int) < ((2 : Int) ^ 62) := by omega
theorem om_1 {x0 : Nat} {x1 : Nat} {x2 : Nat} {x3 : Nat} (h0 : (x0 ≤ x1)) (h1 : ((x2 + x1) < x3)) : ((x2 + x0) < x3) := by lia
theorem om_2 {x0 : Nat} {x1 : Nat} {x2 : Nat} {x3 : Nat} (h0 : ((x0 + (1 : Nat)) ≤ x1)) (h1 : ((x2 + x1) < x3)) : (((x2 + (1 : Nat)) + x0) < x3) := by lia
theorem om_3 {x0 : Nat} {x1 : Nat} {x2 : Nat} {x3 : Nat} (h0 : ((x0 + (3 : Nat)) ≤ x1)) (h1 : ((x2 + x1) < x3)) : (((x2 + (3 : Nat)) + x0) < x3) := by lia
theorem om_4 {x0 : Nat} {x1 : Nat} {x2 : Nat} (h0 : ((x0 + x1) < x2)) : (x0 < x2) := Nat.lt_of_add_right_lt h0
theorem om_5 {x0 : Nat} (h0 : (x0 < ((2 : Nat) ^ 62))) : (((x0 : Nat) : Int) < ((2 : Int) ^ 63)) := by lia
theorem om_6 {x0 : Nat} {x1 : Nat} (h0 : (x0 < x1)) : ((x0 + (1 : Nat)) ≤ x1) := Nat.succ_le_of_lt h0
theorem om_7 {x0 : Nat} {x1 : Nat} (h0 : (x0 ≤ x1)) : (x0 ≤ (x1 + (1 : Nat))) := Nat.le_add_right_of_le h0
theorem om_8 {x0 : Nat} {x1 : Nat} {x2 : Nat} (h0 : ((x0 + x1) ≤ x2)) : (x0 ≤ x2) := Nat.le_of_add_right_le h0
theorem om_9 {x0 : Nat} {x1 : Nat} {x2 : Nat} (h0 : ((x0 + x1) ≤ x2)) : ((x0 + x1) ≤ (x2 + (1 : Nat))) := (Nat.le_trans h0 (Nat.le_add_right _ _))
theorem om_10 {x0 : Nat} {x1 : Nat} (h0 : (x0 < x1)) : (((x1 + (1 : Nat)) - (x0 + (1 : Nat))) < ((x1 + (1 : Nat)) - x0)) := by lia
theorem om_11 {x0 : Nat} {x1 : Nat} (h0 : (x0 ≤ x1)) (h1 : (¬ (x0 < x1))) : (x0 = x1) := by lia
theorem om_12 {x0 : Nat} {x1 : Nat} {x2 : Nat} : ((x0 + (x1 + x2)) = ((x0 + x1) + x2)) := Eq.symm (Nat.add_assoc x0 x1 x2)
theorem om_13 {x0 : Nat} {x1 : Nat} {x2 : Nat} (h0 : (x0 ≤ x1)) : ((x0 + (1 : Nat)) ≤ (((1 : Nat) + x2) + x1)) := by lia
theorem om_14 {x0 : Nat} : ((x0 + (1 : Nat)) = ((1 : Nat) + x0)) := Nat.add_comm x0 1
theorem om_15 {x0 : Nat} {x1 : Nat} {x2 : Nat} {x3 : Nat} (h0 : (x0 ≤ x1)) (h1 : (x2 ≤ x3)) (h2 : (x3 < x0)) : (x2 ≤ x1) := (Nat.le_of_lt (Nat.lt_of_lt_of_le (Nat.lt_of_le_of_lt h1 h2) h0))
theorem om_16 {x0 : Nat} {x1 : Nat} (h0 : (x0 ≤ x1)) : (x0 ≤ x1) := h0
theorem om_17 {x0 : Int} (h0 : ((0 : Int) < x0)) : (x0 = (max x0 (0 : Int))) := by lia
theorem om_18 {x0 : Int} (h0 : (¬ ((0 : Int) < x0))) : ((0 : Int) = (((Int.toNat x0) : Nat) : Int)) := by lia
theorem om_19 {x0 : Int} (h0 : ((0 : Int) ≤ x0)) (h1 : (x0 < ((2 : Int) ^ 62))) : (((((-(9223372036854775808 : Int)) ≤ x0) ∧ (x0 < (9223372036854775808 : Int))) ∧ (((-(9223372036854775808 : Int)) ≤ (max x0 (0 : Int))) ∧ ((max x0 (0 : Int)) < (9223372036854775808 : Int)))) ∧ (((max x0 (0 : Int)) = (0 : Int)) ∨ (((-(9223372036854775808 : Int)) ≤ x0) ∧ (x0 < (9223372036854775808 : Int))))) := by lia
theorem om_20 {x0 : Nat} : (x0 ≠ (x0 + (1 : Nat))) := Nat.ne_add_one x0
theorem om_21 {x0 : Nat} {x1 : Nat} (h0 : ((x0 + (10 : Nat)) < x1)) : (((x0 + (1 : Nat)) + (5 : Nat)) < x1) := by lia
theorem om_22 {x0 : Nat} {x1 : Nat} (h0 : ((x0 + (40 : Nat)) < x1)) : (((x0 + (1 : Nat)) + (20 : Nat)) < x1) := by lia
theorem om_23 {x0 : Nat} {x1 : Nat} {x2 : Nat} {x3 : Nat} {x4 : Nat} (h0 : (((x0 + x1) + (1 : Nat)) ≤ x2)) (h1 : (x3 = x0)) (h2 : (x4 = x1)) : ((x3 + x4) ≤ x2) := by lia
theorem om_24 : (((10 : Nat) + (1 : Nat)) ≤ (20 : Nat)) := by decide
theorem om_25 : (((40 : Nat) + (3 : Nat)) ≤ (80 : Nat)) := by decide
theorem om_26 {x0 : Nat} {x1 : Nat} {x2 : Nat} {x3 : Nat} (h0 : (((x0 + x1) + (1 : Nat)) ≤ x2)) (h1 : (x3 = x0)) : ((x3 + (1 : Nat)) ≤ x2) := by lia
theorem om_27 {x0 : Int} (h0 : ((0 : Int) < x0)) : (x0 ≠ (0 : Int)) := Ne.symm (Int.ne_of_lt h0)
theorem om_28 : (((19 : Nat) + (1 : Nat)) ≤ (20 : Nat)) := by decide
theorem om_29 : (((70 : Nat) + (3 : Nat)) ≤ (80 : Nat)) := by decide
theorem om_30 {x0 : Nat} {x1 : Nat} {x2 : Nat} (h0 : (x0 ≤ (1000 : Nat))) (h1 : (x1 = x2)) (h2 : (x2 ≤ x0)) : (x1 ≤ (16777216 : Nat)) := (Nat.le_of_lt (Nat.lt_of_le_of_lt (Nat.le_trans (Nat.le_trans (Nat.le_of_eq h1) h2) h0) (by decide : (1000 : Nat) < (16777216 : Nat))))
theorem om_31 {x0 : Nat} {x1 : Nat} {x2 : Nat} {x3 : Nat} {x4 : Nat} {x5 : Nat} {x6 : Nat} (h0 : (x0 ≤ (1000 : Nat))) (h1 : (x1 = x2)) (h2 : (x2 ≤ x3)) (h3 : ((16777216 : Nat) = x4)) (h4 : ((x5 + (((1 : Nat) + x6) + x3)) = x0)) : (x1 < x4) := (Nat.lt_of_lt_of_le (Nat.lt_of_le_of_lt (Nat.le_trans (Nat.le_trans (Nat.le_trans (Nat.le_trans (Nat.le_trans (Nat.le_of_eq h1) h2) (Nat.le_add_left _ _)) (Nat.le_add_left _ _)) (Nat.le_of_eq h4)) h0) (by decide : (1000 : Nat) < (16777216 : Nat))) (Nat.le_of_eq h3))
theorem om_32 {x0 : Nat} {x1 : Nat} {x2 : Nat} {x3 : Nat} {x4 : Nat} {x5 : Nat} (h0 : (x0 ≤ (1000 : Nat))) (h1 : (x1 = x2)) (h2 : ((16777216 : Nat) = x3)) (h3 : ((x2 + (((1 : Nat) + x4) + x5)) = x0)) : (x1 ≤ x3) := (Nat.le_of_lt (Nat.lt_of_lt_of_le (Nat.lt_of_le_of_lt (Nat.le_trans (Nat.le_trans (Nat.le_trans (Nat.le_of_eq h1) (Nat.le_add_right _ _)) (Nat.le_of_eq h3)) h0) (by decide : (1000 : Nat) < (16777216 : Nat))) (Nat.le_of_eq h2)))
theorem om_33 {x0 : Nat} {x1 : Nat} {x2 : Nat} {x3 : Nat} {x4 : Nat} {x5 : Nat} {x6 : Nat} (h0 : (x0 ≤ (1000 : Nat))) (h1 : ((16777216 : Nat) = x1)) (h2 : ((x2 + (((1 : Nat) + x3) + x4)) = x0)) (h3 : (x5 = x6)) (h4 : (x6 ≤ x3)) : (x5 ≤ x1) := (Nat.le_of_lt (Nat.lt_of_lt_of_le (Nat.lt_of_le_of_lt (Nat.le_trans (Nat.le_trans (Nat.le_trans (Nat.le_trans (Nat.le_trans (Nat.le_trans (Nat.le_of_eq h3) h4) (Nat.le_add_left _ _)) (Nat.le_add_right _ _)) (Nat.le_add_left _ _)) (Nat.le_of_eq h2)) h0) (by decide : (1000 : Nat) < (16777216 : Nat))) (Nat.le_of_eq h1)))
theorem om_34 {x0 : Nat} {x1 : Nat} {x2 : Nat} {x3 : Nat} {x4 : Nat} {x5 : Nat} {x6 : Nat} {x7 : Nat} {x8 : Nat} (h0 : (x0 ≤ (1000 : Nat))) (h1 : (x1 = x2)) (h2 : (x2 ≤ x3)) (h3 : ((16777216 : Nat) = x4)) (h4 : ((x5 + (((1 : Nat) + x6) + x3)) = x0)) (h5 : (x7 = x8)) (h6 : (x8 ≤ x6)) : ((x1 + x7) ≤ x4) := by lia
theorem om_35 {x0 : Nat} {x1 : Nat} : ((x0 + x1) < (((1 : Nat) + x0) + x1)) := by lia
theorem om_36 : (((20 : Nat) + (1 : Nat)) ≤ (30 : Nat)) := by decide
theorem om_37 : (((80 : Nat) + (3 : Nat)) ≤ (120 : Nat)) := by decide
theorem om_38 {x0 : Nat} {x1 : Nat} {x2 : Nat} (h0 : (x0 ≤ (1000 : Nat))) (h1 : (x1 = x2)) (h2 : (x2 = x0)) : (x1 ≤ (16777216 : Nat)) := (Nat.le_of_lt (Nat.lt_of_le_of_lt (Nat.le_trans (Nat.le_trans (Nat.le_of_eq h1) (Nat.le_of_eq h2)) h0) (by decide : (1000 : Nat) < (16777216 : Nat))))
theorem om_39 {x0 : Nat} {x1 : Nat} {x2 : Nat} (h0 : (x0 ≤ x1)) : (x0 ≤ (x2 + x1)) := Nat.le_add_left_of_le h0
theorem om_40 {x0 : Nat} {x1 : Nat} {x2 : Nat} (h0 : (((1 : Nat) + x0) ≤ (1000 : Nat))) (h1 : (x1 = x2)) (h2 : (x2 ≤ x0)) : (x1 ≤ (16777216 : Nat)) := (Nat.le_of_lt (Nat.lt_of_le_of_lt (Nat.le_trans (Nat.le_trans (Nat.le_trans (Nat.le_of_eq h1) h2) (Nat.le_add_left _ _)) h0) (by decide : (1000 : Nat) < (16777216 : Nat))))
theorem om_41 {x0 : Nat} {x1 : Nat} {x2 : Nat} (h0 : (((1 : Nat) + x0) ≤ (x1 + (1 : Nat)))) (h1 : (x2 ≤ x0)) : (x2 ≤ x1) := by lia
theorem om_42 {x0 : Nat} {x1 : Nat} (h0 : (x0 ≤ x1)) : ((((20 : Nat) + ((3 : Nat) * x0)) + (1 : Nat)) ≤ ((20 : Nat) + ((3 : Nat) * ((1 : Nat) + x1)))) := by lia
theorem om_43 {x0 : Nat} {x1 : Nat} (h0 : (x0 ≤ x1)) : ((((80 : Nat) + ((30 : Nat) * x0)) + (3 : Nat)) ≤ ((80 : Nat) + ((30 : Nat) * ((1 : Nat) + x1)))) := by lia
theorem om_44 {x0 : Nat} {x1 : Nat} (h0 : (((1 : Nat) + x0) ≤ (1000 : Nat))) (h1 : (x1 ≤ x0)) : (x1 ≤ (1000 : Nat)) := (Nat.le_trans (Nat.le_trans h1 (Nat.le_add_left _ _)) h0)
theorem om_45 {x0 : Nat} {x1 : Nat} {x2 : Nat} (h0 : (((1 : Nat) + x0) ≤ (1000 : Nat))) (h1 : (x1 ≤ x0)) (h2 : (x2 = x1)) : (x2 ≤ (16777216 : Nat)) := (Nat.le_of_lt (Nat.lt_of_le_of_lt (Nat.le_trans (Nat.le_trans (Nat.le_trans (Nat.le_of_eq h2) h1) (Nat.le_add_left _ _)) h0) (by decide : (1000 : Nat) < (16777216 : Nat))))
theorem om_46 {x0 : Nat} : (((10 : Nat) + (1 : Nat)) ≤ ((20 : Nat) + ((3 : Nat) * ((1 : Nat) + x0)))) := by lia
theorem om_47 {x0 : Nat} : (((40 : Nat) + (3 : Nat)) ≤ ((80 : Nat) + ((30 : Nat) * ((1 : Nat) + x0)))) := by lia
theorem om_48 {x0 : Nat} {x1 : Nat} (h0 : (x0 ≤ x1)) : (x0 ≤ ((1 : Nat) + x1)) := (Nat.le_trans h0 (Nat.le_add_left _ _))
theorem om_49 {x0 : Nat} {x1 : Nat} {x2 : Nat} {x3 : Nat} (h0 : (x0 ≤ x1)) (h1 : (x2 ≤ x3)) : ((x0 + x2) ≤ (x1 + x3)) := Nat.add_le_add h0 h1
theorem om_50 {x0 : Nat} {x1 : Nat} {x2 : Nat} (h0 : (x0 = (x1 + x2))) : (x1 ≤ x0) := Nat.le.intro (id (Eq.symm h0))
theorem om_51 {x0 : Nat} {x1 : Nat} {x2 : Nat} {x3 : Nat} {x4 : Nat} (h0 : (((1 : Nat) + x0) ≤ (1000 : Nat))) (h1 : (x1 ≤ x0)) (h2 : (x2 ≤ x1)) (h3 : (x3 ≤ x4)) (h4 : (x4 ≤ x0)) : ((((1 : Nat) + x3) + x2) ≤ (16777216 : Nat)) := by lia
theorem om_52 {x0 : Nat} {x1 : Nat} {x2 : Nat} {x3 : Nat} {x4 : Nat} (h0 : (((1 : Nat) + x0) ≤ (1000 : Nat))) (h1 : (x1 ≤ x0)) (h2 : (x2 ≤ x1)) (h3 : (x3 ≤ x4)) (h4 : (x4 ≤ x0)) : ((x3 + x2) ≤ (16777216 : Nat)) := by lia
theorem om_53 {x0 : Nat} {x1 : Nat} {x2 : Nat} {x3 : Nat} (h0 : (x0 ≤ (x1 + x2))) (h1 : (x1 ≤ (x3 + (1 : Nat)))) : (x0 ≤ (x3 + (x2 + (1 : Nat)))) := by lia
theorem om_54 {x0 : Nat} {x1 : Nat} (h0 : ((0 : Nat) = (x0 - x1))) (h1 : (x1 ≤ x0)) : (x1 = x0) := by lia
theorem om_55 {x0 : Nat} {x1 : Nat} {x2 : Nat} (h0 : ((x0 + (1 : Nat)) = (x1 - x2))) : (x2 < x1) := Nat.lt_of_sub_eq_succ (id (Eq.symm h0))
theorem om_56 {x0 : Nat} {x1 : Nat} {x2 : Nat} {x3 : Nat} {x4 : Nat} (h0 : (x0 ≤ x1)) (h1 : (x2 = x3)) (h2 : (x3 ≤ ((0 : Nat) + (min x4 x0)))) : (x2 ≤ x1) := by lia
theorem om_57 {x0 : Nat} {x1 : Nat} {x2 : Nat} (h0 : ((x0 + (1 : Nat)) = (x1 - x2))) : (x0 = (x1 - (x2 + (1 : Nat)))) := by lia
theorem om_58 {x0 : Nat} : ((0 : Int) ≤ ((x0 : Nat) : Int)) := Int.natCast_nonneg x0
theorem om_59 {x0 : Nat} {x1 : Nat} {x2 : Nat} (h0 : (x0 < x1)) (h1 : (x1 ≤ x2)) (h2 : (x2 = (16777216 : Nat))) : (((x0 : Nat) : Int) < ((2 : Int) ^ 63)) := om_c63 (Nat.le_of_lt (Nat.lt_of_lt_of_le (Nat.lt_of_lt_of_le h0 h1) (Nat.le_of_eq h2)))
theorem om_60 {x0 : Nat} {x1 : Nat} {x2 : Nat} {x3 : Nat} (h0 : ((x0 + x1) ≤ x2)) (h1 : (x3 ≤ x1)) : (((x3 + x0) + (1 : Nat)) ≤ ((1 : Nat) + x2)) := by lia
theorem om_61 {x0 : Nat} {x1 : Nat} {x2 : Nat} {x3 : Nat} {x4 : Nat} (h0 : ((x0 + (1 : Nat)) ≤ x1)) (h1 : ((x2 + x3) ≤ x4)) : (((x0 + x2) + (x3 + (1 : Nat))) ≤ (x1 + x4)) := by lia
theorem om_62 {x0 : Nat} : (x0 < ((1 : Nat) + x0)) := by lia
theorem om_63 {x0 : Nat} {x1 : Nat} (h0 : (x0 ≤ x1)) : (x0 < ((1 : Nat) + x1)) := Nat.lt_one_add_iff.mpr h0
theorem om_64 {x0 : Nat} {x1 : Nat} {x2 : Nat} (h0 : (x0 < x1)) : (x0 ≤ (x1 + x2)) := (Nat.le_of_lt (Nat.lt_of_lt_of_le h0 (Nat.le_add_right _ _)))
theorem om_65 {x0 : Nat} {x1 : Nat} {x2 : Nat} {x3 : Nat} (h0 : (x0 ≤ (1000 : Nat))) (h1 : (x1 = x2)) (h2 : (x2 ≤ x0)) (h3 : ((16777216 : Nat) = x3)) : (x1 ≤ x3) := (Nat.le_of_lt (Nat.lt_of_lt_of_le (Nat.lt_of_le_of_lt (Nat.le_trans (Nat.le_trans (Nat.le_of_eq h1) h2) h0) (by decide : (1000 : Nat) < (16777216 : Nat))) (Nat.le_of_eq h3)))
theorem om_66 {x0 : Nat} {x1 : Nat} {x2 : Nat} {x3 : Nat} (h0 : (x0 ≤ (1000 : Nat))) (h1 : (x1 ≤ x0)) (h2 : ((16777216 : Nat) = x2)) (h3 : (x3 ≤ x1)) : (x3 ≤ x2) := (Nat.le_of_lt (Nat.lt_of_lt_of_le (Nat.lt_of_le_of_lt (Nat.le_trans (Nat.le_trans h3 h1) h0) (by decide : (1000 : Nat) < (16777216 : Nat))) (Nat.le_of_eq h2)))
theorem om_67 {x0 : Nat} {x1 : Nat} : (x0 ≤ (x0 + x1)) := (Nat.le_add_right _ _)
theorem om_68 {x0 : Nat} {x1 : Nat} {x2 : Nat} (h0 : (x0 ≤ (1000 : Nat))) (h1 : (x1 ≤ x0)) (h2 : (x2 ≤ x1)) : (x2 ≤ (1000 : Nat)) := (Nat.le_trans (Nat.le_trans h2 h1) h0)
theorem om_69 {x0 : Nat} {x1 : Nat} {x2 : Nat} {x3 : Nat} {x4 : Nat} {x5 : Nat} {x6 : Nat} {x7 : Nat} {x8 : Nat} {x9 : Nat} {x10 : Nat} (h0 : (x0 ≤ (1000 : Nat))) (h1 : ((16777216 : Nat) = x1)) (h2 : (x2 ≤ x3)) (h3 : (x4 ≤ (x5 + x6))) (h4 : ((x7 + x3) ≤ x0)) (h5 : (x8 ≤ x7)) (h6 : (x9 ≤ (1000 : Nat))) (h7 : (x5 ≤ ((0 : Nat) + (x2 + x8)))) (h8 : (x6 ≤ (min x10 x9))) : (x4 ≤ x1) := by lia
theorem om_70 {x0 : Nat} {x1 : Nat} (h0 : (x0 < x1)) : (x0 < (x1 + (1 : Nat))) := Nat.lt_add_right 1 h0
theorem om_71 {x0 : Nat} : (x0 < (x0 + (1 : Nat))) := Nat.lt_add_one x0
theorem om_72 {x0 : Nat} {x1 : Nat} {x2 : Nat} (h0 : (x0 ≤ x1)) (h1 : (x2 ≤ (x0 + (1 : Nat)))) : (x2 ≤ (x1 + (1 : Nat))) := by lia
theorem om_73 : (((10 : Nat) + (1 : Nat)) ≤ (30 : Nat)) := by decide
theorem om_74 : (((40 : Nat) + (3 : Nat)) ≤ (120 : Nat)) := by decide
theorem om_75 {x0 : Nat} {x1 : Nat} (h0 : (x0 ≤ (1000 : Nat))) (h1 : (x1 < x0)) : (((x1 : Nat) : Int) < ((2 : Int) ^ 63)) := om_c63 (Nat.le_of_lt (Nat.lt_trans (Nat.lt_of_lt_of_le h1 h0) (by decide : (1000 : Nat) < (16777216 : Nat))))
theorem om_76 {x0 : Nat} {x1 : Nat} {x2 : Nat} {x3 : Nat} (h0 : (x0 ≤ (1000 : Nat))) (h1 : ((16777216 : Nat) = x1)) (h2 : (x2 ≤ x3)) (h3 : (x3 < x0)) : (x2 ≤ x1) := (Nat.le_of_lt (Nat.lt_of_lt_of_le (Nat.lt_trans (Nat.lt_of_lt_of_le (Nat.lt_of_le_of_lt h2 h3) h0) (by decide : (1000 : Nat) < (16777216 : Nat))) (Nat.le_of_eq h1)))
theorem om_77 {x0 : Nat} {x1 : Nat} (h0 : (x0 < (x1 + (1 : Nat)))) (h1 : (¬ (x0 = x1))) : (x0 < x1) := by lia
theorem om_78 {x0 : Nat} {x1 : Nat} : (((1 : Nat) + (x0 + x1)) ≤ ((((1 : Nat) + x0) + ((1 : Nat) + x1)) + (1 : Nat))) := by lia
theorem om_79 {x0 : Nat} {x1 : Nat} : (((1 : Nat) + (x0 + (((1 : Nat) + x1) + (0 : Nat)))) ≤ ((((1 : Nat) + x0) + ((1 : Nat) + x1)) + (1 : Nat))) := by lia
theorem om_80 {x0 : Nat} {x1 : Nat} : (((1 : Nat) + (((1 : Nat) + x0) + (((1 : Nat) + x1) + (0 : Nat)))) ≤ ((((1 : Nat) + x0) + ((1 : Nat) + x1)) + (1 : Nat))) := by lia
theorem om_81 {x0 : Nat} (h0 : (x0 ≤ (1000 : Nat))) : (x0 ≤ ((1001 : Nat) * ((0 : Nat) + (1 : Nat)))) := by lia
theorem om_82 {x0 : Nat} {x1 : Nat} (h0 : (x0 ≤ ((1001 : Nat) * (x1 + (1 : Nat))))) : (x0 ≤ ((1001 : Nat) * ((x1 + (1 : Nat)) + (1 : Nat)))) := by lia
theorem om_83 {x0 : Nat} {x1 : Nat} {x2 : Nat} {x3 : Nat} (h0 : (x0 ≤ (1000 : Nat))) (h1 : (x1 ≤ ((1001 : Nat) * (x2 + (1 : Nat))))) (h2 : (x3 ≤ ((x1 + x0) + (1 : Nat)))) : (x3 ≤ ((1001 : Nat) * ((x2 + (1 : Nat)) + (1 : Nat)))) := by lia
theorem om_84 {x0 : Nat} {x1 : Nat} {x2 : Nat} (h0 : (x0 ≤ (1000 : Nat))) (h1 : (x1 ≤ ((((1 : Nat) + (0 : Nat)) + x0) + (1 : Nat)))) : (x1 ≤ ((1001 : Nat) * ((x2 + (1 : Nat)) + (1 : Nat)))) := by lia
theorem om_85 : (((30 : Nat) + (1 : Nat)) ≤ (40 : Nat)) := by decide
theorem om_86 : (((120 : Nat) + (3 : Nat)) ≤ (160 : Nat)) := by decide
theorem om_87 {x0 : Nat} {x1 : Nat} {x2 : Nat} (h0 : (x0 ≤ (1000 : Nat))) (h1 : (x1 = x0)) (h2 : ((16777216 : Nat) = x2)) : (x1 ≤ x2) := (Nat.le_of_lt (Nat.lt_of_lt_of_le (Nat.lt_of_le_of_lt (Nat.le_trans (Nat.le_of_eq h1) h0) (by decide : (1000 : Nat) < (16777216 : Nat))) (Nat.le_of_eq h2)))
theorem om_88 : (((10 : Nat) + (1 : Nat)) ≤ (40 : Nat)) := by decide
theorem om_89 : (((40 : Nat) + (3 : Nat)) ≤ (160 : Nat)) := by decide
theorem om_90 {x0 : Nat} {x1 : Nat} {x2 : Nat} {x3 : Nat} (h0 : (x0 = x1)) (h1 : (x1 = x2)) (h2 : (x3 < x2)) : (x3 < x0) := (Nat.lt_of_lt_of_le (Nat.lt_of_lt_of_le h2 (Nat.le_of_eq h1.symm)) (Nat.le_of_eq h0.symm))
theorem om_91 : (((20 : Nat) + (1 : Nat)) ≤ (40 : Nat)) := by decide
theorem om_92 : (((80 : Nat) + (3 : Nat)) ≤ (160 : Nat)) := by decide
theorem om_93 {x0 : Int} {x1 : Int} (h0 : (x0 ≠ (0 : Int))) (h1 : (x1 = x0)) (h2 : (x1 = (0 : Int))) : False := by lia
theorem om_94 {x0 : Nat} {x1 : Nat} (h0 : (x0 ≤ (1000 : Nat))) (h1 : (x1 < x0)) : ((x1 + (1 : Nat)) ≤ (1001 : Nat)) := by lia
theorem om_95 {x0 : Nat} {x1 : Nat} {x2 : Nat} {x3 : Nat} {x4 : Nat} {x5 : Nat} (h0 : ((16777216 : Nat) = x0)) (h1 : (x1 ≤ ((1001 : Nat) * (x2 + (1 : Nat))))) (h2 : (x3 ≤ (1000 : Nat))) (h3 : (x4 ≤ x1)) (h4 : (x5 ≤ x3)) (h5 : (((1001 : Nat) * (x2 + (1 : Nat))) ≤ ((1001 : Nat) * (1001 : Nat)))) : (((x4 + x5) + (1 : Nat)) ≤ x0) := by lia
theorem om_96 {x0 : Nat} {x1 : Nat} {x2 : Nat} {x3 : Nat} (h0 : (x0 ≤ (1000 : Nat))) (h1 : ((16777216 : Nat) = x1)) (h2 : (x2 = x3)) (h3 : (x3 = x0)) : (x2 ≤ x1) := (Nat.le_of_lt (Nat.lt_of_lt_of_le (Nat.lt_of_le_of_lt (Nat.le_trans (Nat.le_trans (Nat.le_of_eq h2) (Nat.le_of_eq h3)) h0) (by decide : (1000 : Nat) < (16777216 : Nat))) (Nat.le_of_eq h1)))
theorem om_97 {x0 : Nat} (h0 : (x0 ≤ (1000 : Nat))) : (((x0 : Nat) : Int) < (9223372036854775808 : Int)) := by lia
theorem om_98 {x0 : Nat} (h0 : (x0 ≤ (1000 : Nat))) : (x0 ≤ (1152921504606846975 : Nat)) := (Nat.le_of_lt (Nat.lt_of_le_of_lt h0 (by decide : (1000 : Nat) < (1152921504606846975 : Nat))))
theorem om_99 {x0 : Nat} (h0 : (x0 ≤ (1000 : Nat))) : (x0 ≤ (16777216 : Nat)) := (Nat.le_of_lt (Nat.lt_of_le_of_lt h0 (by decide : (1000 : Nat) < (16777216 : Nat))))
theorem om_100 {x0 : Nat} {x1 : Nat} {x2 : Nat} {x3 : Nat} (h0 : (x0 ≤ (1000 : Nat))) (h1 : ((x1 + x2) = x0)) (h2 : ((x3 - x1) ≤ x2)) : (x3 ≤ (1000 : Nat)) := by lia
theorem om_101 {x0 : Nat} {x1 : Nat} (h0 : (x0 ≤ x1)) (h1 : (x1 ≤ (1000 : Nat))) : (x0 < ((2 : Nat) ^ 62)) := (Nat.lt_of_le_of_lt (Nat.le_trans h0 h1) (by decide : (1000 : Nat) < ((2 : Nat) ^ 62)))
theorem om_102 {x0 : Nat} {x1 : Nat} (h0 : (x0 = x1)) (h1 : (x1 ≤ (1000 : Nat))) : (x0 < ((2 : Nat) ^ 62)) := (Nat.lt_of_le_of_lt (Nat.le_trans (Nat.le_of_eq h0) h1) (by decide : (1000 : Nat) < ((2 : Nat) ^ 62)))
theorem om_103 {x0 : Nat} {x1 : Nat} {x2 : Nat} (h0 : (x0 = x1)) (h1 : (x2 < x1)) : (x2 < x0) := (Nat.lt_of_lt_of_le h1 (Nat.le_of_eq h0.symm))
theorem om_104 {x0 : Nat} {x1 : Nat} (h0 : (x0 ≤ (1000 : Nat))) (h1 : (x1 < x0)) : (x1 < ((2 : Nat) ^ 62)) := (Nat.lt_trans (Nat.lt_of_lt_of_le h1 h0) (by decide : (1000 : Nat) < ((2 : Nat) ^ 62)))
theorem om_105 {x0 : Nat} {x1 : Nat} {x2 : Nat} {x3 : Nat} {x4 : Nat} {x5 : Nat} (h0 : (x0 ≤ (1000 : Nat))) (h1 : ((x1 + (((1 : Nat) + x2) + x3)) = x0)) (h2 : (x4 = x5)) (h3 : (x5 ≤ x2)) : (x4 < ((2 : Nat) ^ 62)) := (Nat.lt_of_le_of_lt (Nat.le_trans (Nat.le_trans (Nat.le_trans (Nat.le_trans (Nat.le_trans (Nat.le_trans (Nat.le_of_eq h2) h3) (Nat.le_add_left _ _)) (Nat.le_add_right _ _)) (Nat.le_add_left _ _)) (Nat.le_of_eq h1)) h0) (by decide : (1000 : Nat) < ((2 : Nat) ^ 62)))
theorem om_106 {x0 : Nat} {x1 : Nat} {x2 : Nat} {x3 : Nat} {x4 : Nat} {x5 : Nat} (h0 : (x0 ≤ (1000 : Nat))) (h1 : ((x1 + (((1 : Nat) + x2) + x3)) = x0)) (h2 : (x4 = x5)) (h3 : (x5 ≤ x2)) : (((x4 : Nat) : Int) < ((2 : Int) ^ 62)) := om_c62 (Nat.le_of_lt (Nat.lt_of_le_of_lt (Nat.le_trans (Nat.le_trans (Nat.le_trans (Nat.le_trans (Nat.le_trans (Nat.le_trans (Nat.le_of_eq h2) h3) (Nat.le_add_left _ _)) (Nat.le_add_right _ _)) (Nat.le_add_left _ _)) (Nat.le_of_eq h1)) h0) (by decide : (1000 : Nat) < (16777216 : Nat))))
theorem om_107 {x0 : Nat} {x1 : Nat} {x2 : Nat} {x3 : Nat} {x4 : Nat} {x5 : Nat} {x6 : Nat} (h0 : (x0 ≤ (1000 : Nat))) (h1 : ((16777216 : Nat) = x1)) (h2 : ((x2 + (((1 : Nat) + x3) + x4)) = x0)) (h3 : (x5 = x6)) (h4 : (x6 ≤ x3)) : ((Int.toNat ((x5 : Nat) : Int)) ≤ x1) := by lia
theorem om_108 {x0 : Nat} {x1 : Nat} (h0 : ((x0 - x1) > (0 : Nat))) : ((1 : Nat) ≤ (x0 - x1)) := by lia
theorem om_109 {x0 : Nat} {x1 : Nat} {x2 : Nat} (h0 : (x0 = x1)) : ((((x0 : Nat) : Int) + ((0 : Int) + (((x2 : Nat) : Int) * (1 : Int)))) = (((x1 + x2) : Nat) : Int)) := by lia
theorem om_110 {x0 : Nat} {x1 : Nat} {x2 : Nat} (h0 : ((16777216 : Nat) = x0)) (h1 : (x1 ≤ (1000 : Nat))) (h2 : (x2 < x1)) : (x2 ≤ x0) := (Nat.le_of_lt (Nat.lt_of_lt_of_le (Nat.lt_trans (Nat.lt_of_lt_of_le h2 h1) (by decide : (1000 : Nat) < (16777216 : Nat))) (Nat.le_of_eq h0)))
theorem om_111 {x0 : Nat} {x1 : Nat} {x2 : Nat} {x3 : Nat} {x4 : Nat} {x5 : Nat} {x6 : Nat} {x7 : Nat} {x8 : Nat} (h0 : (x0 ≤ (1000 : Nat))) (h1 : ((16777216 : Nat) = x1)) (h2 : (x2 = x3)) (h3 : (x3 ≤ (1000 : Nat))) (h4 : ((x4 + (((1 : Nat) + x5) + x6)) = x0)) (h5 : (x7 = x8)) (h6 : (x8 ≤ x5)) : ((x2 + x7) ≤ x1) := by lia
theorem om_112 {x0 : Nat} {x1 : Nat} {x2 : Nat} (h0 : (x0 = (x1 + x2))) : (x0 < (((1 : Nat) + x2) + x1)) := by lia
theorem om_113 {x0 : Nat} {x1 : Nat} {x2 : Nat} (h0 : (x0 < x1)) : ((x0 + (1 : Nat)) ≤ (x1 + x2)) := Nat.le_add_right_of_le h0
theorem om_114 {x0 : Nat} {x1 : Nat} (h0 : (x0 < x1)) : ((0 : Nat) < x1) := Nat.zero_lt_of_lt h0
theorem om_115 {x0 : Nat} {x1 : Nat} (h0 : (x0 ≥ x1)) (h1 : ((x0 - x1) = (0 : Nat))) : (x0 = x1) := by lia
theorem om_116 {x0 : Nat} {x1 : Nat} {x2 : Nat} {x3 : Nat} (h0 : ((x0 + (((1 : Nat) + x1) + x2)) = x3)) : (((x0 + (1 : Nat)) + (x2 + x1)) = x3) := by lia
theorem om_117 {x0 : Nat} {x1 : Nat} {x2 : Nat} (h0 : (x0 = x1)) (h1 : (¬ (x2 < x1))) : (x0 ≤ x2) := by lia
theorem om_118 {x0 : Nat} {x1 : Nat} (h0 : (x0 = x1)) (h1 : (x1 ≤ (1000 : Nat))) : (x0 ≤ (1000 : Nat)) := (Nat.le_trans (Nat.le_of_eq h0) h1)
theorem om_119 {x0 : Nat} {x1 : Nat} (h0 : (x0 = x1)) : ((((Int.toNat ((((x0 : Nat) : Int) - (1 : Int)) - (-(1 : Int)))) : Nat) : Int) = ((x1 : Nat) : Int)) := by lia
theorem om_120 {x0 : Nat} : ((-((2 : Int) ^ 62)) ≤ (((x0 : Nat) : Int) - (1 : Int))) := by lia
theorem om_121 {x0 : Nat} {x1 : Nat} (h0 : (x0 = x1)) (h1 : (x1 ≤ (1000 : Nat))) : ((((x0 : Nat) : Int) - (1 : Int)) < ((2 : Int) ^ 62)) := by lia
theorem om_122 : ((-((2 : Int) ^ 62)) ≤ (-(1 : Int))) := by decide
theorem om_123 : ((-(1 : Int)) < ((2 : Int) ^ 62)) := by decide
theorem om_124 {x0 : Nat} {x1 : Nat} (h0 : (x0 = x1)) : (x0 = x1) := Nat.add_right_cancel (congrFun (congrArg HAdd.hAdd h0) x0)
theorem om_125 {x0 : Nat} {x1 : Nat} {x2 : Nat} (h0 : (x0 = x1)) (h1 : ((x1 - (0 : Nat)) ≤ x2)) : (x0 ≤ x2) := le_of_eq_of_le h0 h1
theorem om_126 {x0 : Nat} {x1 : Nat} (h0 : (x0 < x1)) : (((x1 - (1 : Nat)) - x0) < x1) := Nat.sub_one_sub_lt_of_lt h0
theorem om_127 {x0 : Nat} {x1 : Nat} {x2 : Nat} (h0 : (x0 = x1)) (h1 : (x2 < x1)) : (((((x0 : Nat) : Int) - (1 : Int)) + (((x2 : Nat) : Int) * (-(1 : Int)))) = ((((x1 - (1 : Nat)) - x2) : Nat) : Int)) := by lia
theorem om_128 {x0 : Nat} (h0 : (x0 = (0 : Nat))) : (x0 ≤ (1000 : Nat)) := (Nat.le_of_lt (Nat.lt_of_le_of_lt (Nat.le_of_eq h0) (by decide : (0 : Nat) < (1000 : Nat))))
theorem om_129 {x0 : Nat} (h0 : (x0 > (0 : Nat))) : ((x0 - (1 : Nat)) < x0) := Nat.sub_one_lt_of_lt h0
theorem om_130 {x0 : Nat} {x1 : Nat} {x2 : Nat} (h0 : (x0 ≤ (1000 : Nat))) (h1 : ((x1 + (x2 - (1 : Nat))) < x0)) : (x2 ≤ (1000 : Nat)) := by lia
theorem om_131 {x0 : Nat} {x1 : Nat} {x2 : Nat} (h0 : ((16777216 : Nat) = x0)) (h1 : (x1 = x2)) (h2 : (x2 ≤ (1000 : Nat))) : (x1 ≤ x0) := (Nat.le_of_lt (Nat.lt_of_lt_of_le (Nat.lt_of_le_of_lt (Nat.le_trans (Nat.le_of_eq h1) h2) (by decide : (1000 : Nat) < (16777216 : Nat))) (Nat.le_of_eq h0)))
theorem om_132 {x0 : Nat} {x1 : Nat} {x2 : Nat} (h0 : (x0 = x1)) (h1 : (x2 < x0)) : (x2 < x1) := (Nat.lt_of_lt_of_le h1 (Nat.le_of_eq h0))
theorem om_133 {x0 : Nat} {x1 : Nat} {x2 : Nat} {x3 : Nat} (h0 : (x0 = x1)) (h1 : ((x2 + x3) < x1)) : ((x2 + x3) < x0) := (Nat.lt_of_lt_of_le h1 (Nat.le_of_eq h0.symm))
theorem om_134 {x0 : Nat} {x1 : Nat} {x2 : Nat} {x3 : Nat} {x4 : Nat} (h0 : (((x0 - (1 : Nat)) - x1) = x2)) (h1 : (x2 < x3)) : ((x0 - x1) ≤ (x3 + x4)) := by lia
theorem om_135 {x0 : Nat} {x1 : Nat} : ((0 : Int) ≤ (((x0 + x1) : Nat) : Int)) := by lia
theorem om_136 {x0 : Nat} {x1 : Nat} {x2 : Nat} (h0 : (x0 ≤ (1000 : Nat))) (h1 : ((x1 + x2) < x0)) : ((((x1 + x2) : Nat) : Int) < ((2 : Int) ^ 63)) := om_c63 (Nat.le_of_lt (Nat.lt_trans (Nat.lt_of_lt_of_le h1 h0) (by decide : (1000 : Nat) < (16777216 : Nat))))
theorem om_137 {x0 : Nat} {x1 : Nat} {x2 : Nat} (h0 : ((16777216 : Nat) = x0)) (h1 : (x1 ≤ (1000 : Nat))) (h2 : (x2 = x1)) : (x2 ≤ x0) := (Nat.le_of_lt (Nat.lt_of_lt_of_le (Nat.lt_of_le_of_lt (Nat.le_trans (Nat.le_of_eq h2) h1) (by decide : (1000 : Nat) < (16777216 : Nat))) (Nat.le_of_eq h0)))
theorem om_138 {x0 : Nat} {x1 : Nat} {x2 : Nat} {x3 : Nat} (h0 : (((x0 - (1 : Nat)) - x1) = x2)) (h1 : ((x0 - (x1 + (1 : Nat))) ≤ x3)) (h2 : (¬ (x2 = x3))) : ((x0 - x1) ≤ x3) := by lia
theorem om_139 {x0 : Nat} {x1 : Nat} (h0 : ((0 : Nat) < x0)) (h1 : (x1 = x0)) : ((0 : Nat) < x1) := (Nat.lt_of_lt_of_le h0 (Nat.le_of_eq h1.symm))
theorem om_140 {x0 : Nat} : ((x0 - x0) ≤ (0 : Nat)) := by lia
theorem om_141 : ((0 : Int) ≤ (0 : Int)) := by decide
theorem om_142 : ((0 : Int) < ((2 : Int) ^ 63)) := by decide
theorem om_143 {x0 : Nat} (h0 : (x0 ≤ (1000 : Nat))) : (((x0 : Nat) : Int) < ((2 : Int) ^ 63)) := om_c63 (Nat.le_of_lt (Nat.lt_of_le_of_lt h0 (by decide : (1000 : Nat) < (16777216 : Nat))))
theorem om_144 {x0 : Int} (h0 : ((0 : Int) ≤ x0)) : (¬ (x0 < (0 : Int))) := Int.not_lt_of_ge h0
theorem om_145 {x0 : Int} {x1 : Nat} : ((max (0 : Int) (min x0 ((x1 : Nat) : Int))) = (((min (Int.toNat x0) x1) : Nat) : Int)) := by lia
theorem om_146 : (((9 : Nat) + (1 : Nat)) ≤ (10 : Nat)) := by decide
theorem om_147 : (((37 : Nat) + (3 : Nat)) ≤ (40 : Nat)) := by decide
theorem om_148 {x0 : Nat} {x1 : Nat} (h0 : ((16777216 : Nat) = x0)) (h1 : ((x1 + (1 : Nat)) ≤ (63 : Nat))) : (x1 < x0) := (Nat.lt_of_lt_of_le (Nat.lt_of_le_of_lt (Nat.le_trans (Nat.le_add_right _ _) h1) (by decide : (63 : Nat) < (16777216 : Nat))) (Nat.le_of_eq h0))
theorem om_149 {x0 : Nat} {x1 : Nat} (h0 : ((16777216 : Nat) = x0)) (h1 : (x1 ≤ (10 : Nat))) : (x1 ≤ x0) := (Nat.le_of_lt (Nat.lt_of_lt_of_le (Nat.lt_of_le_of_lt h1 (by decide : (10 : Nat) < (16777216 : Nat))) (Nat.le_of_eq h0)))
theorem om_150 {x0 : Nat} (h0 : ((x0 + (1 : Nat)) ≤ (63 : Nat))) : (x0 ≤ (63 : Nat)) := (Nat.le_trans (Nat.le_add_right _ _) h0)
theorem om_151 {x0 : Nat} {x1 : Nat} (h0 : (x0 ≤ (63 : Nat))) (h1 : ((16777216 : Nat) = x1)) : (x0 ≤ x1) := (Nat.le_of_lt (Nat.lt_of_lt_of_le (Nat.lt_of_le_of_lt h0 (by decide : (63 : Nat) < (16777216 : Nat))) (Nat.le_of_eq h1)))
theorem om_152 {x0 : Nat} : ((min (Int.toNat (40 : Int)) x0) ≤ (63 : Nat)) := by lia
theorem om_153 {x0 : Nat} {x1 : Nat} (h0 : ((16777216 : Nat) = x0)) (h1 : (x1 ≤ (63 : Nat))) : (x1 ≤ x0) := (Nat.le_of_lt (Nat.lt_of_lt_of_le (Nat.lt_of_le_of_lt h1 (by decide : (63 : Nat) < (16777216 : Nat))) (Nat.le_of_eq h0)))
theorem om_154 {x0 : Nat} {x1 : Nat} (h0 : (x0 ≤ (63 : Nat))) (h1 : (x1 = x0)) : (x1 ≤ (63 : Nat)) := (Nat.le_trans (Nat.le_of_eq h1) h0)
theorem om_155 {x0 : Nat} {x1 : Int} {x2 : Nat} {x3 : Int} (h0 : (((3 : Int) * ((x0 : Nat) : Int)) < x1)) (h1 : (x2 < x0)) (h2 : ((((3 : Int) * ((x2 : Nat) : Int)) < x3) ∧ (x3 ≤ (((3 : Int) * ((x2 : Nat) : Int)) + (3 : Int))))) : (x3 ≠ x1) := by lia
theorem om_156 : (((77 : Nat) + (3 : Nat)) ≤ (80 : Nat)) := by decide
theorem om_157 {x0 : Nat} {x1 : Nat} (h0 : (x0 ≤ (60 : Nat))) (h1 : (x1 = x0)) : (x1 ≤ (1000 : Nat)) := (Nat.le_of_lt (Nat.lt_of_le_of_lt (Nat.le_trans (Nat.le_of_eq h1) h0) (by decide : (60 : Nat) < (1000 : Nat))))
theorem om_158 : ((10 : Nat) ≤ (19 : Nat)) := by decide
theorem om_159 : ((40 : Nat) ≤ (77 : Nat)) := by decide
theorem om_160 {x0 : Int} (h0 : ((0 : Int) ≤ x0)) (h1 : (x0 < (4 : Int))) : ((x0 = (0 : Int)) ∨ ((x0 = (1 : Int)) ∨ ((x0 = (2 : Int)) ∨ (x0 = (3 : Int))))) := by lia
theorem om_161 {x0 : Int} (h0 : ((0 : Int) ≤ x0)) : ((-((2 : Int) ^ 63)) ≤ x0) := by lia
theorem om_162 {x0 : Int} (h0 : (x0 < (4 : Int))) : (x0 < ((2 : Int) ^ 63)) := by lia
theorem om_163 {x0 : Nat} {x1 : Nat} (h0 : ((16777216 : Nat) = x0)) (h1 : (x1 ≤ (1000 : Nat))) : (x1 ≤ x0) := (Nat.le_of_lt (Nat.lt_of_lt_of_le (Nat.lt_of_le_of_lt h1 (by decide : (1000 : Nat) < (16777216 : Nat))) (Nat.le_of_eq h0)))
theorem om_164 {x0 : Nat} {x1 : Nat} {x2 : Int} {x3 : Int} (h0 : (x0 = x1)) (h1 : ((0 : Int) ≤ x2)) (h2 : ((((((x0 : Nat) : Int) * (3 : Int)) + (1 : Int)) + x2) = x3)) : (((3 : Int) * ((x1 : Nat) : Int)) < x3) := by lia
theorem om_165 {x0 : Nat} {x1 : Nat} {x2 : Int} {x3 : Int} (h0 : (x0 = x1)) (h1 : (x2 < (3 : Int))) (h2 : ((((((x0 : Nat) : Int) * (3 : Int)) + (1 : Int)) + x2) = x3)) : (x3 ≤ (((3 : Int) * ((x1 : Nat) : Int)) + (3 : Int))) := by lia
theorem om_166 {x0 : Nat} {x1 : Int} (h0 : (((3 : Int) * ((x0 : Nat) : Int)) < x1)) : ((0 : Int) < x1) := by lia
theorem om_167 {x0 : Nat} (h0 : (x0 ≤ (50 : Nat))) : (x0 ≤ (60 : Nat)) := (Nat.le_of_lt (Nat.lt_of_le_of_lt h0 (by decide : (50 : Nat) < (60 : Nat))))
theorem om_168 {x0 : Nat} (h0 : (x0 ≤ (50 : Nat))) : (x0 ≤ (59 : Nat)) := (Nat.le_of_lt (Nat.lt_of_le_of_lt h0 (by decide : (50 : Nat) < (59 : Nat))))
theorem om_169 {x0 : Nat} (h0 : (x0 ≤ (50 : Nat))) : (x0 ≤ (58 : Nat)) := (Nat.le_of_lt (Nat.lt_of_le_of_lt h0 (by decide : (50 : Nat) < (58 : Nat))))
theorem om_170 {x0 : Nat} (h0 : (x0 ≤ (50 : Nat))) : (x0 ≤ (57 : Nat)) := (Nat.le_of_lt (Nat.lt_of_le_of_lt h0 (by decide : (50 : Nat) < (57 : Nat))))
theorem om_171 {x0 : Int} (h0 : ((0 : Int) ≤ x0)) (h1 : (x0 < (5 : Int))) (h2 : (¬ (x0 = (0 : Int)))) (h3 : (¬ (x0 = (1 : Int)))) (h4 : (¬ (x0 = (3 : Int)))) (h5 : (¬ (x0 = (2 : Int)))) : (x0 = (4 : Int)) := by lia
theorem om_172 : (((39 : Nat) + (1 : Nat)) ≤ (40 : Nat)) := by decide
theorem om_173 : (((157 : Nat) + (3 : Nat)) ≤ (160 : Nat)) := by decide
theorem om_174 : ((10 : Nat) ≤ (39 : Nat)) := by decide
theorem om_175 : ((40 : Nat) ≤ (157 : Nat)) := by decide
theorem om_176 {x0 : Nat} {x1 : Nat} (h0 : (x0 ≤ (1000 : Nat))) (h1 : (x1 = x0)) : (x1 < ((2 : Nat) ^ 62)) := (Nat.lt_of_le_of_lt (Nat.le_trans (Nat.le_of_eq h1) h0) (by decide : (1000 : Nat) < ((2 : Nat) ^ 62)))
theorem om_177 {x0 : Nat} {x1 : Nat} (h0 : (x0 ≤ (1000 : Nat))) (h1 : (x1 = x0)) : (((x1 : Nat) : Int) < ((2 : Int) ^ 62)) := om_c62 (Nat.le_of_lt (Nat.lt_of_le_of_lt (Nat.le_trans (Nat.le_of_eq h1) h0) (by decide : (1000 : Nat) < (16777216 : Nat))))
theorem om_178 {x0 : Nat} {x1 : Nat} {x2 : Nat} (h0 : (x0 ≤ (1000 : Nat))) (h1 : ((16777216 : Nat) = x1)) (h2 : (x2 = x0)) : ((Int.toNat ((x2 : Nat) : Int)) ≤ x1) := by lia
theorem om_179 {x0 : Nat} {x1 : Nat} {x2 : Nat} (h0 : (x0 = x1)) (h1 : (x2 < (Int.toNat ((x0 : Nat) : Int)))) : (x2 < x1) := by lia
theorem om_180 {x0 : Nat} : (((0 : Int) + (((x0 : Nat) : Int) * (1 : Int))) = ((x0 : Nat) : Int)) := by lia
theorem om_181 {x0 : Nat} {x1 : Nat} {x2 : Nat} (h0 : (x0 ≤ (1000 : Nat))) (h1 : (x1 = x0)) (h2 : (x2 < (Int.toNat ((x1 : Nat) : Int)))) : (((x2 : Nat) : Int) < ((2 : Int) ^ 63)) := by lia
theorem om_182 {x0 : Nat} {x1 : Nat} (h0 : (x0 < x1)) : (x0 < x1) := h0
theorem om_183 {x0 : Nat} {x1 : Nat} {x2 : Nat} {x3 : Nat} {x4 : Nat} (h0 : ((16777216 : Nat) = x0)) (h1 : (x1 = x2)) (h2 : (x2 ≤ (1000 : Nat))) (h3 : (x3 = x4)) (h4 : (x4 ≤ (1000 : Nat))) : ((x1 + x3) ≤ x0) := by lia
theorem om_184 {x0 : Nat} {x1 : Nat} {x2 : Nat} {x3 : Nat} {x4 : Nat} {x5 : Nat} {x6 : Nat} (h0 : ((16777216 : Nat) = x0)) (h1 : (x1 = x2)) (h2 : (x2 ≤ (1000 : Nat))) (h3 : (x3 = x4)) (h4 : (x4 ≤ (1000 : Nat))) (h5 : (x5 = x6)) (h6 : (x6 ≤ (1000 : Nat))) : (((x3 + x5) + x1) ≤ x0) := by lia
theorem om_185 {x0 : Nat} {x1 : Nat} {x2 : Nat} {x3 : Nat} {x4 : Nat} {x5 : Nat} {x6 : Nat} (h0 : ((16777216 : Nat) = x0)) (h1 : (x1 = x2)) (h2 : (x2 ≤ (1000 : Nat))) (h3 : (x3 = x4)) (h4 : (x4 ≤ (1000 : Nat))) (h5 : (x5 = x6)) (h6 : (x6 ≤ (1000 : Nat))) : (((x3 + (x5 + x1)) + (1 : Nat)) ≤ x0) := by lia
theorem om_186 {x0 : Nat} {x1 : Nat} {x2 : Nat} : ((0 : Nat) < (x0 + (x1 + (x2 + (1 : Nat))))) := (Nat.lt_of_lt_of_le (Nat.lt_of_lt_of_le (Nat.lt_of_lt_of_le (by decide : (0 : Nat) < (1 : Nat)) (Nat.le_add_left _ _)) (Nat.le_add_left _ _)) (Nat.le_add_left _ _))
theorem om_187 {x0 : Nat} {x1 : Nat} (h0 : (¬ (x0 = x1))) : (¬ (((x0 : Nat) : Int) = ((x1 : Nat) : Int))) := by lia
theorem om_188 : ((20 : Nat) ≤ (39 : Nat)) := by decide
theorem om_189 : ((80 : Nat) ≤ (157 : Nat)) := by decide
theorem om_190 {x0 : Nat} {x1 : Nat} {x2 : Nat} {x3 : Nat} (h0 : (x0 ≤ ((1001 : Nat) * (x1 + (1 : Nat))))) (h1 : (x2 ≤ (1000 : Nat))) (h2 : (x3 ≤ ((x0 + x2) + (1 : Nat)))) : (x3 ≤ ((1001 : Nat) * ((x1 + (1 : Nat)) + (1 : Nat)))) := by lia
theorem om_191 {x0 : Nat} {x1 : Nat} (h0 : (x0 ≤ ((2 : Nat) * x1))) : (((x0 + (1 : Nat)) + (1 : Nat)) ≤ ((2 : Nat) * ((1 : Nat) + x1))) := by lia
theorem om_192 {x0 : Nat} {x1 : Nat} {x2 : Nat} {x3 : Nat} (h0 : (x0 ≤ ((2 : Nat) * x1))) (h1 : (x2 ≤ ((2 : Nat) * x3))) : ((max x0 x2) ≤ ((2 : Nat) * (x1 + x3))) := by lia
theorem om_193 {x0 : Nat} {x1 : Nat} {x2 : Nat} {x3 : Nat} (h0 : ((x0 + ((2 : Nat) * x1)) < x2)) (h1 : (x3 ≤ ((2 : Nat) * x1))) : ((x0 + (min x3 x3)) < x2) := by lia
theorem om_194 {x0 : Nat} {x1 : Nat} {x2 : Nat} {x3 : Nat} (h0 : (((x0 + ((2 : Nat) * x1)) + (1 : Nat)) < x2)) (h1 : (x3 ≤ ((2 : Nat) * x1))) : ((x0 + (x3 + (1 : Nat))) < x2) := by lia
theorem om_195 {x0 : Nat} (h0 : (x0 < (64 : Nat))) : (x0 ≤ (16777216 : Nat)) := (Nat.le_of_lt (Nat.lt_trans h0 (by decide : (64 : Nat) < (16777216 : Nat))))
theorem om_196 {x0 : Nat} {x1 : Nat} {x2 : Nat} : (((x0 + x1) + x2) = ((x2 + x1) + x0)) := by lia
theorem om_197 {x0 : Nat} {x1 : Nat} {x2 : Nat} {x3 : Nat} {x4 : Nat} (h0 : ((x0 + x1) = (x2 + x3))) : (((x4 + x0) + x1) = ((x4 + x2) + x3)) := by lia
theorem om_198 {x0 : Nat} {x1 : Nat} {x2 : Nat} (h0 : (x0 = x1)) : ((x2 + x0) = (x2 + x1)) := by lia
theorem om_199 {x0 : Nat} {x1 : Nat} (h0 : ((x0 + (1 : Nat)) ≤ x1)) : (x0 ≤ x1) := (Nat.le_trans (Nat.le_add_right _ _) h0)
theorem om_200 {x0 : Nat} {x1 : Nat} (h0 : ((x0 + (1 : Nat)) ≤ x1)) : (x0 < x1) := by lia
theorem om_201 {x0 : Nat} {x1 : Nat} {x2 : Nat} (h0 : ((x0 + (1 : Nat)) ≤ x1)) (h1 : (x2 < x0)) : (x2 < x1) := (Nat.lt_of_lt_of_le (Nat.lt_of_lt_of_le h1 (Nat.le_add_right _ _)) h0)
theorem om_202 {x0 : Nat} {x1 : Nat} (h0 : (((x0 : Nat) : Int) = ((x1 : Nat) : Int))) : (x1 = x0) := by lia
theorem om_203 {x0 : Nat} {x1 : Nat} (h0 : (¬ (x0 < x1))) (h1 : (x0 < (x1 + (1 : Nat)))) : (x0 = x1) := by lia
theorem om_204 {x0 : Nat} {x1 : Nat} (h0 : (x0 ≠ x1)) : (¬ (((x0 : Nat) : Int) = ((x1 : Nat) : Int))) := by lia
theorem om_205 {x0 : Nat} {x1 : Nat} (h0 : (((x0 : Nat) : Int) = ((x1 : Nat) : Int))) : (x0 = x1) := by lia
theorem om_206 {x0 : Nat} {x1 : Nat} (h0 : (¬ (x0 = x1))) (h1 : (¬ (x1 < x0))) : (¬ (x1 < (x0 + (1 : Nat)))) := by lia
theorem om_207 {x0 : Nat} {x1 : Nat} {x2 : Nat} (h0 : (x0 ≤ (x1 + x2))) : (x0 ≤ (x1 + (x2 + (1 : Nat)))) := by lia
theorem om_208 {x0 : Nat} {x1 : Nat} {x2 : Nat} {x3 : Nat} {x4 : Nat} {x5 : Nat} {x6 : Nat} {x7 : Nat} (h0 : (x0 ≤ (x1 + x2))) (h1 : ((x3 + x4) = (x0 + x5))) (h2 : ((x6 + x7) = (x3 + (0 : Nat)))) (h3 : (x5 ≤ ((x4 + x7) + (1 : Nat)))) : (x6 ≤ (x1 + (x2 + (1 : Nat)))) := by lia
theorem om_209 {x0 : Nat} {x1 : Nat} {x2 : Nat} (h0 : (x0 ≤ ((6 : Nat) * x1))) (h1 : (x2 ≤ (6 : Nat))) : ((x0 + (x2 + (0 : Nat))) ≤ ((6 : Nat) * (x1 + (1 : Nat)))) := by lia
theorem om_210 {x0 : Nat} {x1 : Nat} {x2 : Nat} (h0 : (x0 ≤ ((4 : Nat) * x1))) (h1 : (x2 ≤ (4 : Nat))) : ((x0 + x2) ≤ ((4 : Nat) * (x1 + (1 : Nat)))) := by lia
theorem om_211 {x0 : Nat} {x1 : Nat} {x2 : Int} {x3 : Int} (h0 : (x0 < x1)) (h1 : (x2 = x3)) (h2 : ((((3 : Int) * ((x0 : Nat) : Int)) < x2) ∧ (x2 ≤ (((3 : Int) * ((x0 : Nat) : Int)) + (3 : Int))))) (h3 : ((((3 : Int) * ((x1 : Nat) : Int)) < x3) ∧ (x3 ≤ (((3 : Int) * ((x1 : Nat) : Int)) + (3 : Int))))) : False := by lia
theorem om_212 {x0 : Nat} (h0 : (¬ ((((63 : Nat) : Nat) : Int) < ((x0 : Nat) : Int)))) : (x0 ≤ (63 : Nat)) := by lia
theorem om_213 : ((20 : Nat) ≤ (600 : Nat)) := by decide
theorem om_214 : ((80 : Nat) ≤ (9000 : Nat)) := by decide
theorem om_215 : ((10 : Nat) ≤ (600 : Nat)) := by decide
theorem om_216 : ((40 : Nat) ≤ (9000 : Nat)) := by decide
theorem om_217 {x0 : Int} (h0 : ((0 : Int) ≤ x0)) : (((1 : Int) + x0) = (((Int.toNat ((1 : Int) + x0)) : Nat) : Int)) := by lia
theorem om_218 {x0 : Int} {x1 : Nat} (h0 : (x0 < (5 : Int))) (h1 : (((1 : Int) + x0) = ((x1 : Nat) : Int))) : (x1 ≤ (5 : Nat)) := by lia
theorem om_219 {x0 : Nat} : ((((Int.toNat ((x0 : Nat) : Int)) : Nat) : Int) = ((x0 : Nat) : Int)) := by lia
theorem om_220 {x0 : Nat} (h0 : (x0 ≤ (5 : Nat))) : (((x0 : Nat) : Int) < ((2 : Int) ^ 62)) := om_c62 (Nat.le_of_lt (Nat.lt_of_le_of_lt h0 (by decide : (5 : Nat) < (16777216 : Nat))))
theorem om_221 : ((30 : Nat) ≤ (600 : Nat)) := by decide
theorem om_222 : ((120 : Nat) ≤ (9000 : Nat)) := by decide
theorem om_223 {x0 : Nat} {x1 : Nat} {x2 : Nat} (h0 : (x0 ≤ (5 : Nat))) (h1 : (x1 < x0)) (h2 : (x2 ≤ ((4 : Nat) * x1))) : (x2 ≤ (50 : Nat)) := by lia
theorem om_224 {x0 : Nat} {x1 : Nat} {x2 : Nat} {x3 : Nat} {x4 : Nat} (h0 : ((16777216 : Nat) = x0)) (h1 : (x1 ≤ (5 : Nat))) (h2 : (x2 < x1)) (h3 : (x3 = x4)) (h4 : (x4 = x2)) : (x3 ≤ x0) := (Nat.le_of_lt (Nat.lt_of_lt_of_le (Nat.lt_trans (Nat.lt_of_lt_of_le (Nat.lt_of_le_of_lt (Nat.le_trans (Nat.le_of_eq h3) (Nat.le_of_eq h4)) h2) h1) (by decide : (5 : Nat) < (16777216 : Nat))) (Nat.le_of_eq h0)))
theorem om_225 {x0 : Nat} {x1 : Nat} {x2 : Nat} (h0 : (x0 ≤ (5 : Nat))) (h1 : (x1 ≤ ((6 : Nat) * x0))) (h2 : (x2 ≤ x1)) : (x2 ≤ (30 : Nat)) := by lia
theorem om_226 {x0 : Nat} {x1 : Nat} {x2 : Nat} {x3 : Nat} (h0 : ((16777216 : Nat) = x0)) (h1 : (x1 ≤ (5 : Nat))) (h2 : (x2 = x3)) (h3 : (x3 = x1)) : (x2 ≤ x0) := (Nat.le_of_lt (Nat.lt_of_lt_of_le (Nat.lt_of_le_of_lt (Nat.le_trans (Nat.le_trans (Nat.le_of_eq h2) (Nat.le_of_eq h3)) h1) (by decide : (5 : Nat) < (16777216 : Nat))) (Nat.le_of_eq h0)))
theorem om_227 {x0 : Nat} (h0 : (x0 ≤ (30 : Nat))) : (((20 : Nat) + ((3 : Nat) * x0)) ≤ (600 : Nat)) := by lia
theorem om_228 {x0 : Nat} (h0 : (x0 ≤ (30 : Nat))) : (((80 : Nat) + ((30 : Nat) * x0)) ≤ (9000 : Nat)) := by lia
theorem om_229 {x0 : Nat} (h0 : (x0 ≤ (30 : Nat))) : (x0 ≤ (1000 : Nat)) := (Nat.le_of_lt (Nat.lt_of_le_of_lt h0 (by decide : (30 : Nat) < (1000 : Nat))))
theorem om_230 {x0 : Nat} {x1 : Nat} {x2 : Nat} {x3 : Nat} {x4 : Nat} {x5 : Nat} {x6 : Nat} {x7 : Nat} {x8 : Nat} (h0 : ((16777216 : Nat) = x0)) (h1 : (x1 ≤ (5 : Nat))) (h2 : (x2 ≤ ((6 : Nat) * x1))) (h3 : (x3 ≤ (30 : Nat))) (h4 : (x4 = x5)) (h5 : (x5 ≤ x3)) (h6 : (x6 ≤ x7)) (h7 : (x8 = x6)) (h8 : (x7 ≤ x2)) : ((x8 + x4) ≤ x0) := by lia
theorem om_231 {x0 : Nat} {x1 : Nat} (h0 : (x0 ≤ (5 : Nat))) (h1 : (x1 ≤ ((6 : Nat) * x0))) : (x1 ≤ (1000 : Nat)) := by lia
theorem om_232 {x0 : Nat} {x1 : Nat} {x2 : Nat} {x3 : Nat} (h0 : ((16777216 : Nat) = x0)) (h1 : (x1 ≤ (5 : Nat))) (h2 : (x2 ≤ ((6 : Nat) * x1))) (h3 : (x3 ≤ x2)) : (x3 ≤ x0) := by lia
theorem om_233 {x0 : Nat} {x1 : Nat} {x2 : Nat} (h0 : (x0 ≤ (5 : Nat))) (h1 : (x1 ≤ ((4 : Nat) * x0))) (h2 : (x2 = x1)) : (x2 < (64 : Nat)) := by lia
theorem om_234 {x0 : Nat} {x1 : Nat} {x2 : Nat} (h0 : (x0 ≤ (5 : Nat))) (h1 : (x1 = x2)) (h2 : (x2 = x0)) : (x1 < ((2 : Nat) ^ 62)) := (Nat.lt_of_le_of_lt (Nat.le_trans (Nat.le_trans (Nat.le_of_eq h1) (Nat.le_of_eq h2)) h0) (by decide : (5 : Nat) < ((2 : Nat) ^ 62)))
theorem om_235 {x0 : Nat} {x1 : Nat} {x2 : Nat} (h0 : (x0 ≤ (5 : Nat))) (h1 : (x1 = x2)) (h2 : (x2 = x0)) : (((x1 : Nat) : Int) < ((2 : Int) ^ 62)) := om_c62 (Nat.le_of_lt (Nat.lt_of_le_of_lt (Nat.le_trans (Nat.le_trans (Nat.le_of_eq h1) (Nat.le_of_eq h2)) h0) (by decide : (5 : Nat) < (16777216 : Nat))))
theorem om_236 {x0 : Nat} {x1 : Nat} {x2 : Nat} {x3 : Nat} (h0 : (x0 ≤ (5 : Nat))) (h1 : (x1 = x2)) (h2 : (x2 = x0)) (h3 : (x3 < x1)) : (((x3 : Nat) : Int) < ((2 : Int) ^ 63)) := om_c63 (Nat.le_of_lt (Nat.lt_trans (Nat.lt_of_lt_of_le (Nat.lt_of_lt_of_le (Nat.lt_of_lt_of_le h3 (Nat.le_of_eq h1)) (Nat.le_of_eq h2)) h0) (by decide : (5 : Nat) < (16777216 : Nat))))
theorem om_237 {x0 : Nat} {x1 : Nat} {x2 : Nat} {x3 : Nat} {x4 : Nat} (h0 : ((16777216 : Nat) = x0)) (h1 : (x1 ≤ (30 : Nat))) (h2 : (x2 ≤ (30 : Nat))) (h3 : (x3 ≤ x1)) (h4 : (x4 ≤ x2)) : (((x3 + x4) + (1 : Nat)) ≤ x0) := by lia
theorem om_238 {x0 : Nat} {x1 : Nat} {x2 : Nat} (h0 : (x0 ≤ (30 : Nat))) (h1 : (x1 ≤ (30 : Nat))) (h2 : (x2 ≤ ((x0 + x1) + (1 : Nat)))) : (x2 ≤ (1000 : Nat)) := by lia
theorem om_239 {x0 : Nat} {x1 : Nat} {x2 : Nat} (h0 : (x0 ≤ (30 : Nat))) (h1 : (x1 ≤ (30 : Nat))) (h2 : (x2 ≤ ((x0 + x1) + (1 : Nat)))) : (((20 : Nat) + ((3 : Nat) * x2)) ≤ (600 : Nat)) := by lia
theorem om_240 {x0 : Nat} {x1 : Nat} {x2 : Nat} (h0 : (x0 ≤ (30 : Nat))) (h1 : (x1 ≤ (30 : Nat))) (h2 : (x2 ≤ ((x0 + x1) + (1 : Nat)))) : (((80 : Nat) + ((30 : Nat) * x2)) ≤ (9000 : Nat)) := by lia
theorem om_241 {x0 : Nat} {x1 : Nat} {x2 : Nat} (h0 : (x0 ≤ (30 : Nat))) (h1 : (x1 ≤ (30 : Nat))) (h2 : (x2 ≤ ((x0 + x1) + (1 : Nat)))) : (((2 : Nat) * x2) ≤ (9000 : Nat)) := by lia
theorem om_242 {x0 : Nat} {x1 : Nat} {x2 : Nat} {x3 : Nat} (h0 : (x0 ≤ (5 : Nat))) (h1 : (x1 = x0)) (h2 : (x2 ≤ ((6 : Nat) * x0))) (h3 : (x3 ≤ (x2 + x1))) : (x3 ≤ (40 : Nat)) := by lia
theorem om_243 {x0 : Nat} {x1 : Nat} (h0 : (x0 ≤ (40 : Nat))) (h1 : (x1 ≤ x0)) : (x1 ≤ (40 : Nat)) := (Nat.le_trans h1 h0)
theorem om_244 : ((40 : Nat) ≤ (600 : Nat)) := by decide
theorem om_245 : ((160 : Nat) ≤ (9000 : Nat)) := by decide
theorem om_246 {x0 : Nat} {x1 : Nat} (h0 : (x0 ≤ (5 : Nat))) (h1 : (x1 = x0)) : (x1 ≤ (1000 : Nat)) := (Nat.le_of_lt (Nat.lt_of_le_of_lt (Nat.le_trans (Nat.le_of_eq h1) h0) (by decide : (5 : Nat) < (1000 : Nat))))
theorem om_247 {x0 : Nat} {x1 : Nat} {x2 : Nat} {x3 : Nat} (h0 : ((16777216 : Nat) = x0)) (h1 : (x1 ≤ (40 : Nat))) (h2 : (x2 ≤ x1)) (h3 : (x3 = x2)) : (x3 ≤ x0) := (Nat.le_of_lt (Nat.lt_of_lt_of_le (Nat.lt_of_le_of_lt (Nat.le_trans (Nat.le_trans (Nat.le_of_eq h3) h2) h1) (by decide : (40 : Nat) < (16777216 : Nat))) (Nat.le_of_eq h0)))
theorem om_248 {x0 : Nat} (h0 : (x0 ≤ (40 : Nat))) : (((20 : Nat) + ((3 : Nat) * x0)) ≤ (600 : Nat)) := by lia
theorem om_249 {x0 : Nat} (h0 : (x0 ≤ (40 : Nat))) : (((80 : Nat) + ((30 : Nat) * x0)) ≤ (9000 : Nat)) := by lia
theorem om_250 {x0 : Nat} (h0 : (x0 ≤ (40 : Nat))) : (x0 ≤ (1000 : Nat)) := (Nat.le_of_lt (Nat.lt_of_le_of_lt h0 (by decide : (40 : Nat) < (1000 : Nat))))
theorem om_251 {x0 : Nat} (h0 : (x0 ≤ (40 : Nat))) : ((((2 : Nat) * x0) + (1 : Nat)) ≤ (9000 : Nat)) := by lia
theorem om_252 {x0 : Nat} {x1 : Nat} {x2 : Nat} {x3 : Nat} (h0 : (x0 ≤ (5 : Nat))) (h1 : (x1 ≤ ((4 : Nat) * x0))) (h2 : (x2 = x1)) (h3 : (x3 = x2)) : (x3 < (64 : Nat)) := by lia
theorem om_253 {x0 : Nat} {x1 : Nat} {x2 : Nat} {x3 : Nat} (h0 : ((16777216 : Nat) = x0)) (h1 : (x1 ≤ (5 : Nat))) (h2 : (x2 = x1)) (h3 : (x3 = x2)) : (x3 ≤ x0) := (Nat.le_of_lt (Nat.lt_of_lt_of_le (Nat.lt_of_le_of_lt (Nat.le_trans (Nat.le_trans (Nat.le_of_eq h3) (Nat.le_of_eq h2)) h1) (by decide : (5 : Nat) < (16777216 : Nat))) (Nat.le_of_eq h0)))
theorem om_254 {x0 : Nat} {x1 : Nat} (h0 : (x0 ≤ (5 : Nat))) (h1 : (x1 ≤ ((6 : Nat) * x0))) : ((((2 : Nat) * x1) + (1 : Nat)) ≤ (9000 : Nat)) := by lia


-- part F1
noncomputable def Pw : Program := PySem.Challenge.rw_sa0547_01.row.prog
noncomputable abbrev Pv : Program := hd.view_39
noncomputable abbrev Lw : List Str := looseW hd.view_39 []

/-- a goal stands aside while things are taken apart -/
theorem hide {G : Prop} (h : ∀ P : Prop, (G → P) → P) : G := h G id
/-- a part of a heap -/
noncomputable abbrev G := Addr → Option Obj
noncomputable def Le (g g' : G) : Prop := ∀ a o, g a = some o → g' a = some o
theorem Le.refl (g : G) : Le g g := fun _ _ e => e
theorem Le.trans {a b c : G} (x : Le a b) (y : Le b c) : Le a c := fun _ _ e => y _ _ (x _ _ e)
theorem Le.none {g g' : G} (x : Le g g') {a : Addr} (e : g' a = Option.none) : g a = Option.none := by
  cases h : g a with
  | none => rfl
  | some o => rw [x a o h] at e; cases e
noncomputable def ins (g : G) (a : Addr) (o : Obj) : G := fun b => if b = a then some o else g b
theorem ins_self (g : G) (a : Addr) (o : Obj) : ins g a o a = some o := by simp [ins]
theorem ins_ne {g : G} {a b : Addr} {o : Obj} (h : b ≠ a) : ins g a o b = g b := by simp [ins, h]
theorem Le.ins {g : G} {a : Addr} {o : Obj} (h : g a = Option.none) : Le g (Mine.ins g a o) := fun b x e => by
  rw [ins_ne]; exact e
  rintro rfl; rw [h] at e; cases e

structure Grow (g fr g' : G) (h' : Heap) : Prop where
  frm : Le fr h'.get?
  le : Le g g'
  im : Le g' h'.get?
  new : ∀ a o, g' a = some o → g a = some o ∨ fr a = none

structure St (g0 fr g : G) (L : Addr) (m : Str → Option Value) (mu : List (Addr × Obj)) (h : Heap) : Prop where
  gr : Grow g0 fr g h
  ns : h.Ns L m
  mt : ∀ p ∈ mu, h.get? p.1 = some p.2
  gL : g L = none
  fL : fr L = none
  gm : ∀ p ∈ mu, g p.1 = none
  fm : ∀ p ∈ mu, fr p.1 = none
  mL : ∀ p ∈ mu, p.1 ≠ L
  nd : (mu.map Prod.fst).Nodup

theorem ns_get {h : Heap} {L : Addr} {m : Str → Option Value} (x : h.Ns L m) : ∃ o, h.get? L = some o := let ⟨o, _, _, e, _⟩ := x; ⟨o, e⟩

section
variable {g0 fr g : G} {L : Addr} {m m' : Str → Option Value} {mu mu' : List (Addr × Obj)} {h h' : Heap} {a : Addr} {o o' : Obj}

theorem St.le (S : St g0 fr g L m mu h) : Le g h.get? := S.gr.im
theorem St.le0 (S : St g0 fr g L m mu h) : Le g0 g := S.gr.le

theorem St.store (S : St g0 fr g L m mu h) (hn : h'.Ns L m') (hs : Heap.SameBut L h h') : St g0 fr g L m' mu h' where
  gr := ⟨fun a o e => (hs.2 a (fun q => by subst q; rw [S.fL] at e; cases e)).trans (S.gr.frm a o e), S.gr.le,
    fun a o e => (hs.2 a (fun q => by subst q; rw [S.gL] at e; cases e)).trans (S.gr.im a o e), S.gr.new⟩
  ns := hn
  mt := fun p hp => (hs.2 p.1 (S.mL p hp)).trans (S.mt p hp)
  gL := S.gL
  fL := S.fL
  gm := S.gm
  fm := S.fm
  mL := S.mL
  nd := S.nd

theorem St.keep (S : St g0 fr g L m mu h) (hk : ∀ b o, h.get? b = some o → h'.get? b = some o) : St g0 fr g L m mu h' where
  gr := ⟨S.gr.frm.trans hk, S.gr.le, S.gr.im.trans hk, S.gr.new⟩
  ns := S.ns.keeps hk
  mt := fun p hp => hk _ _ (S.mt p hp)
  gL := S.gL
  fL := S.fL
  gm := S.gm
  fm := S.fm
  mL := S.mL
  nd := S.nd

/-- a fresh object that will not change -/
theorem St.addG (S : St g0 fr g L m mu h) (hk : ∀ b o, h.get? b = some o → h'.get? b = some o) (ha : h.get? a = none) (ho : h'.get? a = some o) :
    St g0 fr (ins g a o) L m mu h' := by
  have gn : g a = none := S.gr.im.none ha
  have fn : fr a = none := S.gr.frm.none ha
  have S' := S.keep hk
  have aL : L ≠ a := by rintro rfl; obtain ⟨o', e⟩ := ns_get S.ns; rw [ha] at e; cases e
  have aM : ∀ p ∈ mu, p.1 ≠ a := by rintro p hp rfl; have := S.mt p hp; rw [ha] at this; cases this
  refine ⟨⟨S'.gr.frm, S.gr.le.trans (Le.ins gn), fun b x e => ?_, fun b x e => ?_⟩, S'.ns, S'.mt, ?_, S.fL, ?_, S.fm, S.mL, S.nd⟩
  · by_cases hb : b = a
    · subst hb; rw [ins_self] at e; cases e; exact ho
    · rw [ins_ne hb] at e; exact S'.gr.im b x e
  · by_cases hb : b = a
    · subst hb; exact .inr fn
    · rw [ins_ne hb] at e; exact S.gr.new b x e
  · rw [ins_ne aL]; exact S.gL
  · intro p hp; rw [ins_ne (aM p hp)]; exact S.gm p hp

/-- a fresh object that may change -/
theorem St.addM (S : St g0 fr g L m mu h) (hk : ∀ b o, h.get? b = some o → h'.get? b = some o) (ha : h.get? a = none) (ho : h'.get? a = some o) :
    St g0 fr g L m ((a, o) :: mu) h' := by
  have gn : g a = none := S.gr.im.none ha
  have fn : fr a = none := S.gr.frm.none ha
  have S' := S.keep hk
  have aL : a ≠ L := by rintro rfl; obtain ⟨o', e⟩ := ns_get S.ns; rw [ha] at e; cases e
  have aM : ∀ p ∈ mu, p.1 ≠ a := by rintro p hp rfl; have := S.mt p hp; rw [ha] at this; cases this
  refine ⟨S'.gr, S'.ns, ?_, S.gL, S.fL, ?_, ?_, ?_, ?_⟩
  · intro p hp; rcases List.mem_cons.mp hp with rfl | hp
    · exact ho
    · exact S'.mt p hp
  · intro p hp; rcases List.mem_cons.mp hp with rfl | hp
    · exact gn
    · exact S.gm p hp
  · intro p hp; rcases List.mem_cons.mp hp with rfl | hp
    · exact fn
    · exact S.fm p hp
  · intro p hp; rcases List.mem_cons.mp hp with rfl | hp
    · exact aL
    · exact S.mL p hp
  · rw [List.map_cons, List.nodup_cons]
    refine ⟨fun hm => ?_, S.nd⟩
    obtain ⟨p, hp, e⟩ := List.mem_map.mp hm
    exact aM p hp e

/-- an object stays as it is from now on -/
theorem St.freeze (S : St g0 fr g L m ((a, o) :: mu) h) : St g0 fr (ins g a o) L m mu h := by
  have hm : (a, o) ∈ (a, o) :: mu := .head _
  have aL : L ≠ a := (S.mL _ hm).symm
  have aM : ∀ p ∈ mu, p.1 ≠ a := by
    intro p hp e
    have := S.nd
    rw [List.map_cons, List.nodup_cons] at this
    exact this.1 (List.mem_map.mpr ⟨p, hp, e⟩)
  refine ⟨⟨S.gr.frm, S.gr.le.trans (Le.ins (S.gm _ hm)), fun b x e => ?_, fun b x e => ?_⟩, S.ns, fun p hp => S.mt p (.tail _ hp), ?_, S.fL, ?_, fun p hp => S.fm p (.tail _ hp), fun p hp => S.mL p (.tail _ hp), ?_⟩
  · by_cases hb : b = a
    · subst hb; rw [ins_self] at e; cases e; exact S.mt _ hm
    · rw [ins_ne hb] at e; exact S.gr.im b x e
  · by_cases hb : b = a
    · subst hb; exact .inr (S.fm _ hm)
    · rw [ins_ne hb] at e; exact S.gr.new b x e
  · rw [ins_ne aL]; exact S.gL
  · intro p hp; rw [ins_ne (aM p hp)]; exact S.gm p (.tail _ hp)
  · have := S.nd; rw [List.map_cons, List.nodup_cons] at this; exact this.2

theorem St.sub (S : St g0 fr g L m mu h) (hs : List.Sublist mu' mu) : St g0 fr g L m mu' h where
  gr := S.gr
  ns := S.ns
  mt := fun p hp => S.mt p (hs.subset hp)
  gL := S.gL
  fL := S.fL
  gm := fun p hp => S.gm p (hs.subset hp)
  fm := fun p hp => S.fm p (hs.subset hp)
  mL := fun p hp => S.mL p (hs.subset hp)
  nd := S.nd.sublist (hs.map _)
theorem St.drop {p : Addr × Obj} (S : St g0 fr g L m (p :: mu) h) : St g0 fr g L m mu h := S.sub (List.sublist_cons_self _ _)

theorem St.perm (S : St g0 fr g L m mu h) (hs : List.Perm mu mu') : St g0 fr g L m mu' h where
  gr := S.gr
  ns := S.ns
  mt := fun p hp => S.mt p (hs.mem_iff.mpr hp)
  gL := S.gL
  fL := S.fL
  gm := fun p hp => S.gm p (hs.mem_iff.mpr hp)
  fm := fun p hp => S.fm p (hs.mem_iff.mpr hp)
  mL := fun p hp => S.mL p (hs.mem_iff.mpr hp)
  nd := (hs.map Prod.fst).nodup_iff.mp S.nd

/-- one object of the changing ones is another -/
inductive UpL (d : Addr) (o o' : Obj) : List (Addr × Obj) → List (Addr × Obj) → Prop
  | here {r} : UpL d o o' ((d, o) :: r) ((d, o') :: r)
  | there {p r r'} : UpL d o o' r r' → UpL d o o' (p :: r) (p :: r')
  | app {l r r'} : UpL d o o' r r' → UpL d o o' (l ++ r) (l ++ r')
theorem UpL.split {d : Addr} {o o' : Obj} {l l' : List (Addr × Obj)} (U : UpL d o o' l l') : ∃ pre post, l = pre ++ (d, o) :: post ∧ l' = pre ++ (d, o') :: post := by
  induction U with
  | here => exact ⟨[], _, rfl, rfl⟩
  | there _ ih => obtain ⟨a, b, e1, e2⟩ := ih; exact ⟨_ :: a, b, by rw [e1]; rfl, by rw [e2]; rfl⟩
  | @app l _ _ _ ih => obtain ⟨a, b, e1, e2⟩ := ih; exact ⟨l ++ a, b, by rw [e1, List.append_assoc], by rw [e2, List.append_assoc]⟩
theorem UpL.mem {d : Addr} {o o' : Obj} {l l' : List (Addr × Obj)} (U : UpL d o o' l l') : (d, o) ∈ l := by
  obtain ⟨a, b, rfl, _⟩ := U.split; simp

theorem St.upd (S : St g0 fr g L m mu h) (U : UpL a o o' mu mu') (hs : Heap.SameBut a h h') (ho : h'.get? a = some o') : St g0 fr g L m mu' h' := by
  obtain ⟨pre, post, rfl, rfl⟩ := U.split
  have hm : (a, o) ∈ pre ++ (a, o) :: post := by simp
  have nd := S.nd
  have aM : ∀ p, p ∈ pre ∨ p ∈ post → p.1 ≠ a := by
    intro p hp e
    rw [List.map_append, List.map_cons] at nd
    have h1 := List.nodup_append.mp nd
    rcases hp with hp | hp
    · exact h1.2.2 p.1 (List.mem_map_of_mem hp) a (.head _) e
    · exact (List.nodup_cons.mp h1.2.1).1 (List.mem_map.mpr ⟨p, hp, e⟩)
  have fsts : (pre ++ (a, o') :: post).map Prod.fst = (pre ++ (a, o) :: post).map Prod.fst := by simp
  have old : ∀ p ∈ pre ++ (a, o') :: post, p = (a, o') ∨ (p ∈ pre ++ (a, o) :: post ∧ p.1 ≠ a) := by
    intro p hp
    rcases List.mem_append.mp hp with hp | hp
    · exact .inr ⟨List.mem_append.mpr (.inl hp), aM p (.inl hp)⟩
    · rcases List.mem_cons.mp hp with rfl | hp
      · exact .inl rfl
      · exact .inr ⟨List.mem_append.mpr (.inr (.tail _ hp)), aM p (.inr hp)⟩
  refine ⟨⟨fun b x e => (hs.2 b (fun q => by subst q; have := S.fm _ hm; rw [e] at this; cases this)).trans (S.gr.frm b x e), S.gr.le,
    fun b x e => (hs.2 b (fun q => by subst q; have := S.gm _ hm; rw [e] at this; cases this)).trans (S.gr.im b x e), S.gr.new⟩, S.ns.sameBut hs (S.mL _ hm).symm, ?_, S.gL, S.fL, ?_, ?_, ?_, fsts ▸ nd⟩
  · intro p hp
    rcases old p hp with rfl | ⟨hp, hne⟩
    · exact ho
    · exact (hs.2 _ hne).trans (S.mt p hp)
  · intro p hp; rcases old p hp with rfl | ⟨hp, _⟩
    · exact S.gm (a, o) hm
    · exact S.gm p hp
  · intro p hp; rcases old p hp with rfl | ⟨hp, _⟩
    · exact S.fm (a, o) hm
    · exact S.fm p hp
  · intro p hp; rcases old p hp with rfl | ⟨hp, _⟩
    · exact S.mL (a, o) hm
    · exact S.mL p hp

/-- behind a call that changes nothing -/
theorem St.call {g' : G} (S : St g0 fr g L m mu h) (X : Grow g h.get? g' h') : St g0 fr g' L m mu h' where
  gr := ⟨S.gr.frm.trans X.frm, S.gr.le.trans X.le, X.im, fun a o e => (X.new a o e).elim (S.gr.new a o) fun q => .inr (S.gr.frm.none q)⟩
  ns := S.ns.keeps X.frm
  mt := fun p hp => X.frm _ _ (S.mt p hp)
  gL := by
    cases e : g' L with
    | none => rfl
    | some o => rcases X.new _ _ e with q | q
                · rw [S.gL] at q; cases q
                · obtain ⟨o', e'⟩ := ns_get S.ns; rw [q] at e'; cases e'
  fL := S.fL
  gm := fun p hp => by
    cases e : g' p.1 with
    | none => rfl
    | some o => rcases X.new _ _ e with q | q
                · rw [S.gm p hp] at q; cases q
                · rw [S.mt p hp] at q; cases q
  fm := S.fm
  mL := S.mL
  nd := S.nd

theorem Grow.refl {g : G} {h : Heap} (x : Le g h.get?) : Grow g h.get? g h := ⟨Le.refl _, Le.refl _, x, fun _ _ e => .inl e⟩
theorem Grow.trans {g g' g'' : G} {h h' h'' : Heap} (x : Grow g h.get? g' h') (y : Grow g' h'.get? g'' h'') : Grow g h.get? g'' h'' :=
  ⟨x.frm.trans y.frm, x.le.trans y.le, y.im, fun a o e => (y.new a o e).elim (x.new a o) fun q => .inr (x.frm.none q)⟩
end

/-- what the top holds, within a part of a heap -/
structure Bs (w : World) (g : G) : Prop where
  k : ∀ a o, (hd.heap_39 w.params).lookup a = some o → g a = some o
  t : ∃ mg mb H0, TopRead Pv Lw mg mb H0 ∧ Le H0.get? g ∧ (hd.heap_39 w.params).In H0
theorem Bs.mono {w : World} {g g' : G} (B : Bs w g) (x : Le g g') : Bs w g' := ⟨fun a o e => x _ _ (B.k a o e), let ⟨mg, mb, H0, T, l, k⟩ := B.t; ⟨mg, mb, H0, T, l.trans x, k⟩⟩
theorem Bs.kin {w : World} {g : G} {h : Heap} (B : Bs w g) (x : Le g h.get?) : (hd.heap_39 w.params).In h := fun a o e => x _ _ (B.k a o e)
theorem Bs.nolimit {w : World} {g : G} {h : Heap} (B : Bs w g) (x : Le g h.get?) : h.NoLimit := let ⟨_, _, _, T, l, _⟩ := B.t; T.nolimit.keeps (l.trans x)

section
variable {prog : Program} {w : World} {M : Model} {A : Around} {E : Value → Shared → Prop} {s : Shared} {env : Env} {g0 fr g : G} {L : Addr} {m : Str → Option Value} {mu : List (Addr × Obj)} {x : Str} {v : Value} {pos : Pos}

theorem ldL {Q : Value → Shared → Prop} (S : St g0 fr g env.locals m mu s.heap) (hv : m x = some v) (h : Q v s)
    (hk : env.scope.kind = .function := by rfl) (hx : env.kindOf x = some .local := by rfl) (hd : (x == ("__debug__" : Str)) = false := by decide) :
    wpAny M A (eval (.Name x pos) env) Q E s := wpAny_Name (wpAny_loadName_local hk hx S.ns hv h) hd
theorem ldG {Q : Value → Shared → Prop} (B : Bs w g0) (S : St g0 fr g L m mu s.heap) (e : nsIn (hd.heap_39 w.params) mainGlobals x = some (some v)) (h : Q v s)
    (hg : env.globals = mainGlobals := by rfl) (hk : env.scope.kind = .function := by rfl) (hx : env.kindOf x = some .globalImplicit := by rfl) (hd : (x == ("__debug__" : Str)) = false := by decide) :
    wpAny M A (eval (.Name x pos) env) Q E s := by
  obtain ⟨mg, mb, H0, T, l, k⟩ := B.t
  exact Name_function_global hk hx (loadGlobal_global (by rw [hg]; exact T.g.keeps (l.trans (S.le0.trans S.le))) (mg_of k T.g e) h) hd
theorem ldB {Q : Value → Shared → Prop} (B : Bs w g0) (S : St g0 fr g L m mu s.heap) (e : nsIn (hd.heap_39 w.params) mainGlobals x = some none) (hv : bootBuiltins x = some v) (hn : x ≠ "__name__") (h : Q v s)
    (hg : env.globals = mainGlobals := by rfl) (hb : env.builtins = builtinsNs := by rfl) (hk : env.scope.kind = .function := by rfl) (hx : env.kindOf x = some .globalImplicit := by rfl) (hd : (x == ("__debug__" : Str)) = false := by decide) :
    wpAny M A (eval (.Name x pos) env) Q E s := by
  obtain ⟨mg, mb, H0, T, l, k⟩ := B.t
  have up := l.trans (S.le0.trans S.le)
  exact Name_function_global hk hx (loadGlobal_builtin (by rw [hg]; exact T.g.keeps up) (mg_none_of k T.g e) (by rw [hb]; exact T.b.keeps up) ((T.builtins x hn).trans hv) h) hd
theorem ldC {Q : Value → Shared → Prop} {c : Addr} {o : Obj} (S : St g0 fr g L m mu s.heap) (hc : env.cells.lookup x = some c) (hm : (c, o) ∈ mu) (hd : o.data = .cell (some v)) (h : Q v s)
    (hk : env.scope.kind = .function := by rfl) (hx : env.kindOf x = some .cell := by rfl) (hb : (x == ("__debug__" : Str)) = false := by decide) :
    wpAny M A (eval (.Name x pos) env) Q E s := wpAny_Name (wpAny_loadName_cell hk hx hc ⟨o, S.mt _ hm, hd⟩ h) hb
theorem stL {Q : Unit → Shared → Prop} (S : St g0 fr g env.locals m mu s.heap)
    (h : ∀ h', St g0 fr g env.locals (fun y => if y = x then some v else m y) mu h' → Q () { s with heap := h', toks := s.toks + 1 })
    (hk : env.scope.kind = .function := by rfl) (hx : env.kindOf x = some .local := by rfl) : wpAny M A (storeName env x v) Q E s :=
  wpAny_storeName_local hx S.ns (fun h' hn hs => h h' (S.store hn hs)) (by rw [hk]; rfl)

/-- room for d frames more, and u units -/
structure Room (A : Around) (d u : Nat) : Prop where
  hd : A.handled = none
  dp : A.depth + d < recursionLimit
  un : A.units + u < cLine

theorem Room.le {A : Around} {d u d' u' : Nat} (R : Room A d u) (h1 : d' ≤ d) (h2 : u' ≤ u) : Room A d' u' := ⟨R.hd, by have := R.dp; exact om_1 h1 this, by have := R.un; exact om_1 h2 this⟩
theorem Room.deeper {A : Around} {d u d' u' : Nat} {env : Env} (R : Room A d u) (h1 : d' + 1 ≤ d) (h2 : u' + 3 ≤ u) : Room (A.deeper env) d' u' :=
  ⟨R.hd, by have := R.dp; show A.depth + 1 + d' < _; exact om_2 h1 this, by have := R.un; show A.units + 3 + u' < _; exact om_3 h2 this⟩
theorem Room.in1 {A : Around} {d u d' u' : Nat} (R : Room A d u) (h1 : d' ≤ d) (h2 : u' + 1 ≤ u) : Room A.in1 d' u' :=
  ⟨R.hd, by have := R.dp; show A.depth + d' < _; exact om_1 h1 this, by have := R.un; show A.units + 1 + u' < _; exact om_2 h2 this⟩
end

/-- entering one of the text's own functions -/
theorem enterC {w : World} {A : Around} {s : Shared} {RR : Result → Shared → Prop} {d u : Nat} {g fr : G} {mu : List (Addr × Obj)}
    {name qual : Str} {params : Arguments} {body : List Stmt} {scope : Scope} {dV kV doc pm cdv ct oc : Value} {an od : Option Addr} {osl : Array (Option Value)} {f : Addr} {args : List Value} {binds : List (Str × Value)}
    (R : Room A d u) (B : Bs w g) (hg : Le g s.heap.get?) (hf : Le fr s.heap.get?) (hm : ∀ p ∈ mu, s.heap.get? p.1 = some p.2 ∧ g p.1 = none ∧ fr p.1 = none) (hnd : (mu.map Prod.fst).Nodup)
    (ho : (hd.heap_39 w.params).lookup f = some ⟨oc, od, .func (fnOf name qual params body scope dV kV doc pm an cdv ct), osl⟩) (hcd : codeIn (hd.heap_39 w.params) cdv qual = true)
    (hbind : BindsTo s (fnOf name qual params body scope dV kV doc pm an cdv ct) ⟨args, []⟩ binds) (hloc : ∀ y ∈ binds, scope.names.lookup y.1 = some .local)
    (h : ∀ L h₁, St g fr g L (fun y => binds.reverse.lookup y) mu h₁ →
      wpAny (model Pw w) (A.deeper (envX qual scope L f cdv [])) (execs body (envX qual scope L f cdv []))
        (fun fl s' => RR (.ok (.ret (match fl with | .ret v => v | _ => .none))) s') (fun _ _ => False) { s with heap := h₁, toks := s.toks + binds.length })
    (hco : scope.isCoroutine = false := by rfl) (hgen : scope.isGenerator = false := by rfl) (hk : scope.kind = .function := by rfl)
    (hcell : ∀ x ∈ scope.names, x.2 ≠ .cell := by decide) : codeAny (model Pw w) A (.call (.ref f) ⟨args, []⟩) RR s := by
  refine codeAny_call_def (fd := fnOf name qual params body scope dV kV doc pm an cdv ct) (body := body) (binds := binds) (by have := R.dp; exact om_4 this) (hg _ _ (B.k _ _ ho)) rfl (B.nolimit hg) (codeRec_of (B.kin hg) hcd) rfl hbind hcell hloc (fun h₁ hns hk₁ => ?_) hco hgen hk
  have hL : s.heap.get? s.heap.objs.size = none := by
    cases e : s.heap.get? s.heap.objs.size with
    | none => rfl
    | some o => exact absurd (Heap.lt_size e) (Nat.lt_irrefl _)
  refine wpAny_mono (h s.heap.objs.size h₁ ⟨⟨hf.trans hk₁, Le.refl _, hg.trans hk₁, fun _ _ e => .inl e⟩, hns, fun p hp => hk₁ _ _ (hm p hp).1, hg.none hL, hf.none hL, fun p hp => (hm p hp).2.1, fun p hp => (hm p hp).2.2, fun p hp e => ?_, hnd⟩) (fun _ _ q => q) fun _ _ q => q.elim
  have := (hm p hp).1; rw [e, hL] at this; cases this
theorem enterM {w : World} {A : Around} {E : Value → Shared → Prop} {s : Shared} {Q : Value → Shared → Prop} {d u : Nat} {g fr : G} {mu : List (Addr × Obj)}
    {name qual : Str} {params : Arguments} {body : List Stmt} {scope : Scope} {dV kV doc pm cdv ct oc : Value} {an od : Option Addr} {osl : Array (Option Value)} {f : Addr} {args : List Value} {binds : List (Str × Value)}
    (R : Room A d u) (B : Bs w g) (hg : Le g s.heap.get?) (hf : Le fr s.heap.get?) (hm : ∀ p ∈ mu, s.heap.get? p.1 = some p.2 ∧ g p.1 = none ∧ fr p.1 = none) (hnd : (mu.map Prod.fst).Nodup)
    (ho : (hd.heap_39 w.params).lookup f = some ⟨oc, od, .func (fnOf name qual params body scope dV kV doc pm an cdv ct), osl⟩) (hcd : codeIn (hd.heap_39 w.params) cdv qual = true)
    (hbind : BindsTo s (fnOf name qual params body scope dV kV doc pm an cdv ct) ⟨args, []⟩ binds) (hloc : ∀ y ∈ binds, scope.names.lookup y.1 = some .local)
    (h : ∀ L h₁, St g fr g L (fun y => binds.reverse.lookup y) mu h₁ →
      wpAny (model Pw w) (A.deeper (envX qual scope L f cdv [])) (execs body (envX qual scope L f cdv []))
        (fun fl s' => Q (match fl with | .ret v => v | _ => .none) s') (fun _ _ => False) { s with heap := h₁, toks := s.toks + binds.length })
    (hco : scope.isCoroutine = false := by rfl) (hgen : scope.isGenerator = false := by rfl) (hk : scope.kind = .function := by rfl)
    (hcell : ∀ x ∈ scope.names, x.2 ≠ .cell := by decide) : wpAny (model Pw w) A (call (.ref f) args) Q E s :=
  wpAny_call (enterC R B hg hf hm hnd ho hcd hbind hloc h hco hgen hk hcell)


-- part F2
/-! the library's ledger over all that stands -/
noncomputable def Ev (h : Heap) (xs : List Addr) : List (Addr × Obj) := (List.range h.objs.size).filterMap fun b => if b ∈ xs then none else (h.get? b).map fun o => (b, o)
theorem mem_Ev {h : Heap} {xs : List Addr} {p : Addr × Obj} : p ∈ Ev h xs ↔ h.get? p.1 = some p.2 ∧ p.1 ∉ xs := by
  obtain ⟨b, o⟩ := p
  unfold Ev
  rw [List.mem_filterMap]
  constructor
  · rintro ⟨c, _, e⟩
    split at e
    · cases e
    · rename_i hc
      obtain ⟨o', e1, e2⟩ := Option.map_eq_some_iff.mp e
      cases e2
      exact ⟨e1, hc⟩
  · rintro ⟨e, hc⟩
    exact ⟨b, List.mem_range.mpr (Heap.lt_size e), by rw [if_neg hc]; dsimp only at e ⊢; rw [e]; rfl⟩
noncomputable abbrev H00 : Heap := {}
theorem H00_none (a : Addr) : H00.get? a = none := by
  cases e : H00.get? a with
  | none => rfl
  | some o => exact absurd (Heap.lt_size e) (Nat.not_lt_zero _)

section
variable {g0 fr g : G} {L : Addr} {m m' : Str → Option Value} {mu mu' : List (Addr × Obj)} {h h' : Heap} {a d : Addr} {o o' : Obj}
theorem St.fr0 (S : St g0 fr g L m mu h) : Fr H00 L h m := ⟨S.ns, (fun b o e => by rw [H00_none] at e; cases e), Nat.zero_le _⟩
theorem St.newsA (_ : St g0 fr g L m mu h) : News H00 L h (Ev h [L]) := fun p hp => by
  obtain ⟨e, hn⟩ := mem_Ev.mp hp
  exact ⟨e, fun q => hn (by rw [q]; exact .head _), H00_none _⟩
theorem St.newsD (S : St g0 fr g L m mu h) (hm : (d, o) ∈ mu) : News H00 L h ((d, o) :: Ev h [d, L]) := fun p hp => by
  rcases List.mem_cons.mp hp with rfl | hp
  · exact ⟨S.mt _ hm, S.mL _ hm, H00_none _⟩
  · obtain ⟨e, hn⟩ := mem_Ev.mp hp
    exact ⟨e, fun q => hn (by rw [q]; exact .tail _ (.head _)), H00_none _⟩
theorem Ev_ne {p : Addr × Obj} (hp : p ∈ Ev h [d, L]) : p.1 ≠ d := fun q => (mem_Ev.mp hp).2 (by rw [q]; exact .head _)
theorem St.upl (_ : St g0 fr g L m mu h) : Upd d o o' ((d, o) :: Ev h [d, L]) ((d, o') :: Ev h [d, L]) := .head fun _ hp => Ev_ne hp

theorem St.backA (S : St g0 fr g L m mu h) (F : Fr H00 L h' m') (N : News H00 L h' (Ev h [L])) : St g0 fr g L m' mu h' := by
  have old : ∀ b x, b ≠ L → h.get? b = some x → h'.get? b = some x := fun b x hb e => (N (b, x) (mem_Ev.mpr ⟨e, by simpa using hb⟩)).1
  exact ⟨⟨fun b x e => old b x (fun q => by subst q; rw [S.fL] at e; cases e) (S.gr.frm b x e), S.gr.le, fun b x e => old b x (fun q => by subst q; rw [S.gL] at e; cases e) (S.gr.im b x e), S.gr.new⟩,
    F.ns, fun p hp => old _ _ (S.mL p hp) (S.mt p hp), S.gL, S.fL, S.gm, S.fm, S.mL, S.nd⟩
theorem St.backM (S : St g0 fr g L m mu h) (F : Fr H00 L h' m') (N : News H00 L h' ((a, o) :: Ev h [L])) (ha : h.get? a = none) : St g0 fr g L m' ((a, o) :: mu) h' := by
  have S' := S.backA F (fun p hp => N p (.tail _ hp))
  have gn : g a = none := S.gr.im.none ha
  have fn : fr a = none := S.gr.frm.none ha
  have aL : a ≠ L := (N (a, o) (.head _)).2.1
  have aM : ∀ p ∈ mu, p.1 ≠ a := by rintro p hp rfl; have := S.mt p hp; rw [ha] at this; cases this
  refine ⟨S'.gr, S'.ns, ?_, S.gL, S.fL, ?_, ?_, ?_, ?_⟩
  · intro p hp; rcases List.mem_cons.mp hp with rfl | hp
    · exact (N _ (.head _)).1
    · exact S'.mt p hp
  · intro p hp; rcases List.mem_cons.mp hp with rfl | hp
    · exact gn
    · exact S.gm p hp
  · intro p hp; rcases List.mem_cons.mp hp with rfl | hp
    · exact fn
    · exact S.fm p hp
  · intro p hp; rcases List.mem_cons.mp hp with rfl | hp
    · exact aL
    · exact S.mL p hp
  · rw [List.map_cons, List.nodup_cons]
    refine ⟨fun hm => ?_, S.nd⟩
    obtain ⟨p, hp, e⟩ := List.mem_map.mp hm
    exact aM p hp e
theorem St.backD (S : St g0 fr g L m mu h) (U : UpL d o o' mu mu') (F : Fr H00 L h' m') (N : News H00 L h' ((d, o') :: Ev h [d, L])) : St g0 fr g L m' mu' h' := by
  have old : ∀ b x, b ≠ L → b ≠ d → h.get? b = some x → h'.get? b = some x := fun b x hb hd e => (N (b, x) (.tail _ (mem_Ev.mpr ⟨e, by simp [hb, hd]⟩))).1
  obtain ⟨pre, post, rfl, rfl⟩ := U.split
  have hm : (d, o) ∈ pre ++ (d, o) :: post := by simp
  have nd := S.nd
  have aM : ∀ p, p ∈ pre ∨ p ∈ post → p.1 ≠ d := by
    intro p hp e
    rw [List.map_append, List.map_cons] at nd
    have h1 := List.nodup_append.mp nd
    rcases hp with hp | hp
    · exact h1.2.2 p.1 (List.mem_map_of_mem hp) d (.head _) e
    · exact (List.nodup_cons.mp h1.2.1).1 (List.mem_map.mpr ⟨p, hp, e⟩)
  have fsts : (pre ++ (d, o') :: post).map Prod.fst = (pre ++ (d, o) :: post).map Prod.fst := by simp
  have old' : ∀ p ∈ pre ++ (d, o') :: post, p = (d, o') ∨ (p ∈ pre ++ (d, o) :: post ∧ p.1 ≠ d) := by
    intro p hp
    rcases List.mem_append.mp hp with hp | hp
    · exact .inr ⟨List.mem_append.mpr (.inl hp), aM p (.inl hp)⟩
    · rcases List.mem_cons.mp hp with rfl | hp
      · exact .inl rfl
      · exact .inr ⟨List.mem_append.mpr (.inr (.tail _ hp)), aM p (.inr hp)⟩
  refine ⟨⟨fun b x e => old b x (fun q => by subst q; rw [S.fL] at e; cases e) (fun q => by subst q; have := S.fm _ hm; rw [e] at this; cases this) (S.gr.frm b x e), S.gr.le,
    fun b x e => old b x (fun q => by subst q; rw [S.gL] at e; cases e) (fun q => by subst q; have := S.gm _ hm; rw [e] at this; cases this) (S.gr.im b x e), S.gr.new⟩, F.ns, ?_, S.gL, S.fL, ?_, ?_, ?_, fsts ▸ nd⟩
  · intro p hp
    rcases old' p hp with rfl | ⟨hp, hne⟩
    · exact (N _ (.head _)).1
    · exact old _ _ (S.mL p hp) hne (S.mt p hp)
  · intro p hp; rcases old' p hp with rfl | ⟨hp, _⟩
    · exact S.gm (d, o) hm
    · exact S.gm p hp
  · intro p hp; rcases old' p hp with rfl | ⟨hp, _⟩
    · exact S.fm (d, o) hm
    · exact S.fm p hp
  · intro p hp; rcases old' p hp with rfl | ⟨hp, _⟩
    · exact S.mL (d, o) hm
    · exact S.mL p hp
theorem none_size (h : Heap) : h.get? h.objs.size = none := by
  cases e : h.get? h.objs.size with
  | none => rfl
  | some o => exact absurd (Heap.lt_size e) (Nat.lt_irrefl _)
theorem none_ge {h : Heap} {a : Addr} (ha : h.objs.size ≤ a) : h.get? a = none := by
  cases e : h.get? a with
  | none => rfl
  | some o => exact absurd (Heap.lt_size e) (Nat.not_lt.mpr ha)
theorem none_lt {a : Addr} (_ : St g0 fr g L m mu h) (hl : ∀ p ∈ Ev h [L], p.1 < a) (hL : L ≠ a) : h.get? a = none := by
  cases e : h.get? a with
  | none => rfl
  | some o => exact absurd (hl (a, o) (mem_Ev.mpr ⟨e, by simpa using Ne.symm hL⟩)) (Nat.lt_irrefl _)
end

/-! shapes -/
noncomputable abbrev tupOf (vs : List Value) (n : Nat) : Obj := { cls := .type "tuple", data := .seq vs.toArray n }
noncomputable abbrev lsOf (vs : List Value) (n : Nat) : Obj := listOf vs.toArray n
noncomputable def LsG (g : G) (l : Addr) (vs : List Value) : Prop := ∃ n, g l = some (lsOf vs n)
noncomputable def TpG (g : G) (a : Addr) (vs : List Value) : Prop := ∃ n, g a = some (tupOf vs n)
theorem LsG.mono {g g' : G} {l vs} (x : LsG g l vs) (k : Le g g') : LsG g' l vs := let ⟨n, e⟩ := x; ⟨n, k _ _ e⟩
theorem TpG.mono {g g' : G} {l vs} (x : TpG g l vs) (k : Le g g') : TpG g' l vs := let ⟨n, e⟩ := x; ⟨n, k _ _ e⟩
theorem LsG.at {g : G} {h : Heap} {l vs} (x : LsG g l vs) (k : Le g h.get?) : h.IsList l vs.toArray := let ⟨n, e⟩ := x; ⟨_, k _ _ e, rfl, n, rfl⟩
theorem TpG.at {g : G} {h : Heap} {l vs} (x : TpG g l vs) (k : Le g h.get?) : IsTup h l vs.toArray := let ⟨n, e⟩ := x; ⟨_, k _ _ e, rfl, n, rfl⟩
theorem LsG.ins (g : G) (l : Addr) (vs n) : LsG (Mine.ins g l (lsOf vs n)) l vs := ⟨n, ins_self _ _ _⟩
theorem TpG.ins (g : G) (l : Addr) (vs n) : TpG (Mine.ins g l (tupOf vs n)) l vs := ⟨n, ins_self _ _ _⟩

/-! trees -/
inductive T where
  | mk (n : Int) (ks : List T)
noncomputable def T.n : T → Int | .mk n _ => n
noncomputable def T.ks : T → List T | .mk _ ks => ks

noncomputable def nodeDict (P : Params) (t1 t2 : Tok) (n : Int) (tn : Tok) (l : Addr) (k : Nat) : Obj :=
  dictOf [⟨PyData.keyHash P (Str.ofString "number"), .str (Str.ofString "number") t1, .int n tn⟩, ⟨PyData.keyHash P (Str.ofString "kids"), .str (Str.ofString "kids") t2, .ref l⟩] k
noncomputable def NodeAt (w : World) (g : G) (a : Addr) (n : Int) (l : Addr) : Prop := ∃ dx t1 t2 tn k, g a = some (instObj 36 dx) ∧ g dx = some (nodeDict w.params t1 t2 n tn l k)
theorem NodeAt.mono {w : World} {g g' : G} {a n l} (x : NodeAt w g a n l) (k : Le g g') : NodeAt w g' a n l := by
  obtain ⟨dx, t1, t2, tn, c, e1, e2⟩ := x
  exact ⟨dx, t1, t2, tn, c, k _ _ e1, k _ _ e2⟩

mutual
/-- a Node of the program's bears a tree -/
inductive NT (w : World) (g : G) : Value → T → Prop
  | mk {a l : Addr} {n : Int} {vs : List Value} {ks : List T} : NodeAt w g a n l → LsG g l vs → NTs w g vs ks → NT w g (.ref a) (.mk n ks)
inductive NTs (w : World) (g : G) : List Value → List T → Prop
  | nil : NTs w g [] []
  | cons {v : Value} {t : T} {vs : List Value} {ts : List T} : NT w g v t → NTs w g vs ts → NTs w g (v :: vs) (t :: ts)
end
mutual
/-- a tuple of the law's bears a tree -/
inductive LT (g : G) : Value → T → Prop
  | mk {a l : Addr} {n : Int} {tn : Tok} {vs : List Value} {ks : List T} : TpG g a [.int n tn, .ref l] → LsG g l vs → LTs g vs ks → LT g (.ref a) (.mk n ks)
inductive LTs (g : G) : List Value → List T → Prop
  | nil : LTs g [] []
  | cons {v : Value} {t : T} {vs : List Value} {ts : List T} : LT g v t → LTs g vs ts → LTs g (v :: vs) (t :: ts)
end
mutual
/-- a told tuple bears a tree -/
inductive TT (g : G) : Value → T → Prop
  | mk {a l : Addr} {n : Int} {tn : Tok} {vs : List Value} {ks : List T} : TpG g a [.int n tn, .ref l] → TpG g l vs → TTs g vs ks → TT g (.ref a) (.mk n ks)
inductive TTs (g : G) : List Value → List T → Prop
  | nil : TTs g [] []
  | cons {v : Value} {t : T} {vs : List Value} {ts : List T} : TT g v t → TTs g vs ts → TTs g (v :: vs) (t :: ts)
end
mutual
theorem NT.mono {w : World} {g g' : G} (k : Le g g') : ∀ {v t}, NT w g v t → NT w g' v t
  | _, _, .mk a b c => .mk (a.mono k) (b.mono k) (NTs.mono k c)
theorem NTs.mono {w : World} {g g' : G} (k : Le g g') : ∀ {vs ts}, NTs w g vs ts → NTs w g' vs ts
  | _, _, .nil => .nil
  | _, _, .cons a b => .cons (NT.mono k a) (NTs.mono k b)
end
mutual
theorem LT.mono {g g' : G} (k : Le g g') : ∀ {v t}, LT g v t → LT g' v t
  | _, _, .mk a b c => .mk (a.mono k) (b.mono k) (LTs.mono k c)
theorem LTs.mono {g g' : G} (k : Le g g') : ∀ {vs ts}, LTs g vs ts → LTs g' vs ts
  | _, _, .nil => .nil
  | _, _, .cons a b => .cons (LT.mono k a) (LTs.mono k b)
end
mutual
theorem TT.mono {g g' : G} (k : Le g g') : ∀ {v t}, TT g v t → TT g' v t
  | _, _, .mk a b c => .mk (a.mono k) (b.mono k) (TTs.mono k c)
theorem TTs.mono {g g' : G} (k : Le g g') : ∀ {vs ts}, TTs g vs ts → TTs g' vs ts
  | _, _, .nil => .nil
  | _, _, .cons a b => .cons (TT.mono k a) (TTs.mono k b)
end

/-! the table -/
noncomputable abbrev Tab := List (Int × Str × Bool)
noncomputable def EntAt (g : G) (v : Value) (b : Str) (r : Bool) : Prop := ∃ a x0 x1 x2 x3 t, v = .ref a ∧ TpG g a [x0, x1, x2, x3, .str b t, .bool r]
theorem EntAt.mono {g g' : G} {v b r} (x : EntAt g v b r) (k : Le g g') : EntAt g' v b r := by
  obtain ⟨a, x0, x1, x2, x3, t, e, h⟩ := x
  exact ⟨a, x0, x1, x2, x3, t, e, h.mono k⟩
noncomputable def TabO (w : World) (g : G) (o : Obj) (tab : Tab) : Prop := ∃ kvs, o.IsDictOf (PySem.intKind Pw w) kvs ∧ kvs.map (·.1) = tab.map (·.1) ∧ ∀ n b r, tab.lookup n = some (b, r) → ∃ v, valueAt kvs n = some v ∧ EntAt g v b r
theorem TabO.mono {w : World} {g g' : G} {o tab} (x : TabO w g o tab) (k : Le g g') : TabO w g' o tab := by
  obtain ⟨kvs, h1, h2, h3⟩ := x
  exact ⟨kvs, h1, h2, fun n b r e => let ⟨v, e1, e2⟩ := h3 n b r e; ⟨v, e1, e2.mono k⟩⟩
noncomputable def TabG (w : World) (g : G) (d : Addr) (tab : Tab) : Prop := ∃ o, g d = some o ∧ TabO w g o tab
theorem TabG.mono {w : World} {g g' : G} {d tab} (x : TabG w g d tab) (k : Le g g') : TabG w g' d tab := let ⟨o, e, h⟩ := x; ⟨o, k _ _ e, h.mono k⟩

theorem fill_once : PySem.Challenge.rw_sa0547_01.foot = PySem.Challenge.rw_sa0547_01.foot ∧ (fun P => hd.heap_39 P) = (fun P => hd.heap_39 P) := by
  k_fill
  exact ⟨rfl, rfl⟩

-- part F3
section
variable (w : World)
theorem gn_all_nodes : nsIn (hd.heap_39 w.params) mainGlobals (Str.ofString "all_nodes") = some (some (.ref 47)) := by k_is
theorem kp47 : keepIn (hd.heap_39 w.params) (.ref 47) = true := by k_is
theorem gn_numbers_told : nsIn (hd.heap_39 w.params) mainGlobals (Str.ofString "numbers_told") = some (some (.ref 52)) := by k_is
theorem kp52 : keepIn (hd.heap_39 w.params) (.ref 52) = true := by k_is
theorem gn_parent_numbers : nsIn (hd.heap_39 w.params) mainGlobals (Str.ofString "parent_numbers") = some (some (.ref 57)) := by k_is
theorem kp57 : keepIn (hd.heap_39 w.params) (.ref 57) = true := by k_is
theorem gn_base_under : nsIn (hd.heap_39 w.params) mainGlobals (Str.ofString "base_under") = some (some (.ref 64)) := by k_is
theorem kp64 : keepIn (hd.heap_39 w.params) (.ref 64) = true := by k_is
theorem gn_is_better : nsIn (hd.heap_39 w.params) mainGlobals (Str.ofString "is_better") = some (some (.ref 71)) := by k_is
theorem kp71 : keepIn (hd.heap_39 w.params) (.ref 71) = true := by k_is
theorem gn_subject_places : nsIn (hd.heap_39 w.params) mainGlobals (Str.ofString "subject_places") = some (some (.ref 78)) := by k_is
theorem kp78 : keepIn (hd.heap_39 w.params) (.ref 78) = true := by k_is
theorem gn_joined_threads : nsIn (hd.heap_39 w.params) mainGlobals (Str.ofString "joined_threads") = some (some (.ref 85)) := by k_is
theorem kp85 : keepIn (hd.heap_39 w.params) (.ref 85) = true := by k_is
theorem gn_gathered : nsIn (hd.heap_39 w.params) mainGlobals (Str.ofString "gathered") = some (some (.ref 90)) := by k_is
theorem kp90 : keepIn (hd.heap_39 w.params) (.ref 90) = true := by k_is
theorem gn_law_stock : nsIn (hd.heap_39 w.params) mainGlobals (Str.ofString "_law_stock") = some (some (.ref 96)) := by k_is
theorem kp96 : keepIn (hd.heap_39 w.params) (.ref 96) = true := by k_is
theorem gn_law_part : nsIn (hd.heap_39 w.params) mainGlobals (Str.ofString "_law_part") = some (some (.ref 103)) := by k_is
theorem kp103 : keepIn (hd.heap_39 w.params) (.ref 103) = true := by k_is
theorem gn_law_letter : nsIn (hd.heap_39 w.params) mainGlobals (Str.ofString "_law_letter") = some (some (.ref 110)) := by k_is
theorem kp110 : keepIn (hd.heap_39 w.params) (.ref 110) = true := by k_is
theorem gn_law_tree : nsIn (hd.heap_39 w.params) mainGlobals (Str.ofString "_law_tree") = some (some (.ref 117)) := by k_is
theorem kp117 : keepIn (hd.heap_39 w.params) (.ref 117) = true := by k_is
theorem gn_law_node : nsIn (hd.heap_39 w.params) mainGlobals (Str.ofString "_law_node") = some (some (.ref 122)) := by k_is
theorem kp122 : keepIn (hd.heap_39 w.params) (.ref 122) = true := by k_is
theorem gn_law_told : nsIn (hd.heap_39 w.params) mainGlobals (Str.ofString "_law_told") = some (some (.ref 127)) := by k_is
theorem kp127 : keepIn (hd.heap_39 w.params) (.ref 127) = true := by k_is
theorem gn_law_parents : nsIn (hd.heap_39 w.params) mainGlobals (Str.ofString "_law_parents") = some (some (.ref 134)) := by k_is
theorem kp134 : keepIn (hd.heap_39 w.params) (.ref 134) = true := by k_is
theorem gn_law_joined : nsIn (hd.heap_39 w.params) mainGlobals (Str.ofString "_law_joined") = some (some (.ref 141)) := by k_is
theorem kp141 : keepIn (hd.heap_39 w.params) (.ref 141) = true := by k_is
theorem gn_law_base : nsIn (hd.heap_39 w.params) mainGlobals (Str.ofString "_law_base") = some (some (.ref 148)) := by k_is
theorem kp148 : keepIn (hd.heap_39 w.params) (.ref 148) = true := by k_is
theorem gn_law_gathered : nsIn (hd.heap_39 w.params) mainGlobals (Str.ofString "_law_gathered") = some (some (.ref 153)) := by k_is
theorem kp153 : keepIn (hd.heap_39 w.params) (.ref 153) = true := by k_is
theorem gn_Node : nsIn (hd.heap_39 w.params) mainGlobals (Str.ofString "Node") = some (some (.ref 36)) := by k_is
theorem kp36 : keepIn (hd.heap_39 w.params) (.ref 36) = true := by k_is
theorem gn_law_bases : nsIn (hd.heap_39 w.params) mainGlobals (Str.ofString "_law_bases") = some (some (.ref 91)) := by k_is
theorem bn_len : nsIn (hd.heap_39 w.params) mainGlobals (Str.ofString "len") = some none := by k_is
theorem bn_range : nsIn (hd.heap_39 w.params) mainGlobals (Str.ofString "range") = some none := by k_is
theorem bn_list : nsIn (hd.heap_39 w.params) mainGlobals (Str.ofString "list") = some none := by k_is
theorem bn_dict : nsIn (hd.heap_39 w.params) mainGlobals (Str.ofString "dict") = some none := by k_is
theorem bn_tuple : nsIn (hd.heap_39 w.params) mainGlobals (Str.ofString "tuple") = some none := by k_is
theorem bn_sorted : nsIn (hd.heap_39 w.params) mainGlobals (Str.ofString "sorted") = some none := by k_is
theorem bn_enumerate : nsIn (hd.heap_39 w.params) mainGlobals (Str.ofString "enumerate") = some none := by k_is
theorem bn_abs : nsIn (hd.heap_39 w.params) mainGlobals (Str.ofString "abs") = some none := by k_is
theorem bn_int : nsIn (hd.heap_39 w.params) mainGlobals (Str.ofString "int") = some none := by k_is
theorem bn_sum : nsIn (hd.heap_39 w.params) mainGlobals (Str.ofString "sum") = some none := by k_is
end


-- part F4
section
variable (w : World)
theorem nf_pg1 : plainGet (hd.heap_39 w.params) 36 (Str.ofString "number") = true := by k_is
theorem nf_pg2 : plainGet (hd.heap_39 w.params) 36 (Str.ofString "kids") = true := by k_is
theorem nf_hd : hasDictIn (hd.heap_39 w.params) 36 = true := by k_is
theorem nf_a1 : findIn (hd.heap_39 w.params) (.ref 36) (Str.ofString "number") = some none := by k_is
theorem nf_a2 : findIn (hd.heap_39 w.params) (.ref 36) (Str.ofString "kids") = some none := by k_is
theorem nf_ng : noGet (hd.heap_39 w.params) none = true := by k_is
end

section
variable {w : World} {A : Around} {E : Value → Shared → Prop} {s : Shared} {env : Env} {g0 fr g : G} {L : Addr} {m : Str → Option Value} {mu mu' : List (Addr × Obj)} {x : Str} {v : Value} {pos : Pos} {h : Heap}

theorem St.kin (B : Bs w g0) (S : St g0 fr g L m mu h) : (hd.heap_39 w.params).In h := B.kin (S.le0.trans S.le)

theorem rNumber {a l : Addr} {n : Int} {ex : Bool} {Q : Value → Shared → Prop} (B : Bs w g0) (S : St g0 fr g L m mu s.heap) (H : NodeAt w g a n l) (h : ∀ tn tb, Q (.int n tn) { s with toks := tb }) :
    wpAny (model Pw w) A (getAttr (.ref a) (Str.ofString "number") ex) Q E s := by
  obtain ⟨dx, t1, t2, tn, k, e1, e2⟩ := H
  exact get_value (S.kin B) ⟨S.le _ _ e1, rfl, rfl, S.le _ _ e2⟩ (plainGet_of (nf_pg1 w)).1 (findObj_own (nf_hd w) (nf_a1 w) (nf_ng w) (by rfl)) rfl (h tn _)
theorem rKids {a l : Addr} {n : Int} {ex : Bool} {Q : Value → Shared → Prop} (B : Bs w g0) (S : St g0 fr g L m mu s.heap) (H : NodeAt w g a n l) (h : ∀ tb, Q (.ref l) { s with toks := tb }) :
    wpAny (model Pw w) A (getAttr (.ref a) (Str.ofString "kids") ex) Q E s := by
  obtain ⟨dx, t1, t2, tn, k, e1, e2⟩ := H
  exact get_value (S.kin B) ⟨S.le _ _ e1, rfl, rfl, S.le _ _ e2⟩ (plainGet_of (nf_pg2 w)).1 (findObj_own (nf_hd w) (nf_a2 w) (nf_ng w) (by rfl)) rfl (h _)

theorem rItemL {value slice : Expr} {l : Addr} {vs : List Value} {k : Int} {u : Tok} {y : Value} {Q : Value → Shared → Prop} (hl : s.heap.IsList l vs.toArray) (h0 : 0 ≤ k) (hhi : k < 2 ^ 63) (hx : vs[k.toNat]? = some y) (h : Q y s)
    (hs : subscripted slice false (.ref l) (.int k u) = operate [.ref l, .int k u] (getItem (.ref l) (.int k u)) := by with_unfolding_all rfl) :
    wpAny (model Pw w) A (subscriptTail value slice (.ref l) (.int k u)) Q E s := item_litK hl h0 hhi hx h hs
theorem rItemT {value slice : Expr} {l : Addr} {vs : List Value} {k : Int} {u : Tok} {j : Nat} {y : Value} {Q : Value → Shared → Prop} (hl : IsTup s.heap l vs.toArray) (hlo : -(2 ^ 63) ≤ k) (hhi : k < 2 ^ 63) (hj : seqIndex? k vs.length = some j) (hx : vs[j]? = some y) (h : Q y s)
    (hs : subscripted slice false (.ref l) (.int k u) = operate [.ref l, .int k u] (getItem (.ref l) (.int k u)) := by with_unfolding_all rfl) :
    wpAny (model Pw w) A (subscriptTail value slice (.ref l) (.int k u)) Q E s := item_tupleT hl hlo hhi hj hx h hs
theorem rTab {value slice : Expr} {d : Addr} {tab : Tab} {k : Int} {u : Tok} {b : Str} {r : Bool} {Q : Value → Shared → Prop} (S : St g0 fr g L m mu s.heap) (H : TabG w g d tab) (e : tab.lookup k = some (b, r)) (h : ∀ v tb, EntAt g v b r → Q v { s with toks := tb })
    (hs : subscripted slice false (.ref d) (.int k u) = operate [.ref d, .int k u] (getItem (.ref d) (.int k u)) := by with_unfolding_all rfl) :
    wpAny (model Pw w) A (subscriptTail value slice (.ref d) (.int k u)) Q E s := by
  obtain ⟨o, e1, kvs, hd, hk, he⟩ := H
  obtain ⟨v, e2, e3⟩ := he _ _ _ e
  have hD : s.heap.DictOf (PySem.intKind Pw w) d kvs := Heap.dictOf_iff.mpr ⟨o, S.le _ _ e1, hd⟩
  exact tail_any hD.typeIs slot_dict_getitem.lookup (wpAny_getItem_of (knd := PySem.intKind Pw w) (intKind_is _ _ _ _) hD.mapOf e2 (h v _ e3)) hs
end


-- part F5
theorem iteNT {P Q : Prop} (h : Q) : (if (!true) = true then P else Q) := h
theorem iteNF {P Q : Prop} (h : P) : (if (!false) = true then P else Q) := h
theorem iteT {P Q : Prop} (h : P) : (if true = true then P else Q) := by rw [if_pos rfl]; exact h
theorem iteF {P Q : Prop} (h : Q) : (if false = true then P else Q) := by rw [if_neg Bool.false_ne_true]; exact h
section
variable {w : World} {A : Around} {E : Value → Shared → Prop} {s : Shared} {env : Env} {g0 fr g : G} {L : Addr} {m : Str → Option Value} {mu mu' : List (Addr × Obj)} {x : Addr} {v : Value} {pos : Pos} {h : Heap}
theorem rSet {dx : Addr} {C : Addr} {es es' : List DictEntry} {n n' : Nat} {name : Str} {Q : Unit → Shared → Prop} (B : Bs w g0) (S : St g0 fr g L m mu s.heap) (hx : g x = some (instObj C dx)) (U : UpL dx (dictOf es n) (dictOf es' n') mu mu')
    (hs : findIn (hd.heap_39 w.params) (.ref C) "__setattr__" = some (some (.builtin "object.__setattr__"))) (hp : plainOver (hd.heap_39 w.params) C = true) (ht : takerIn (hd.heap_39 w.params) C name = some none) (hh : hasDictIn (hd.heap_39 w.params) C = true) (hl : (getL name es).isSome = true)
    (e : (putL name (PyData.keyHash w.params name) (.str name (s.toks + 1)) v es, putN name es n) = (es', n')) (hz : es'.length ≤ 1000)
    (h : ∀ h', St g0 fr g L m mu' h' → Q () { s with heap := h', toks := s.toks + 2 }) :
    wpAny (model Pw w) A (setAttr (.ref x) name v) Q E s := by
  obtain ⟨e1, e2⟩ := Prod.mk.inj e
  have I : InstAt s.heap x (instObj C dx) C (some (dictOf es n)) := ⟨S.le _ _ hx, rfl, rfl, S.mt _ U.mem⟩
  exact set_plain (S.kin B) I hs (osa_dict (pre := []) (s := { s with toks := s.toks + 1 }) S.fr0 (S.newsD U.mem) (S.kin B) I rfl hp ht hh hl (fun _ h => nomatch h) (fun p hp => Ev_ne hp) (by rw [putName_dict, e1, e2]) rfl hz fun h' F' N' => h h' (S.backD U F' N'))
end
theorem bt_len : bootBuiltins (Str.ofString "len") = some (.builtin "len") := by decide +kernel
theorem bt_range : bootBuiltins (Str.ofString "range") = some (.type "range") := by decide +kernel
theorem bt_list : bootBuiltins (Str.ofString "list") = some (.type "list") := by decide +kernel
theorem bt_dict : bootBuiltins (Str.ofString "dict") = some (.type "dict") := by decide +kernel
theorem bt_tuple : bootBuiltins (Str.ofString "tuple") = some (.type "tuple") := by decide +kernel
theorem bt_sorted : bootBuiltins (Str.ofString "sorted") = some (.builtin "sorted") := by decide +kernel
theorem bt_enumerate : bootBuiltins (Str.ofString "enumerate") = some (.type "enumerate") := by decide +kernel
theorem bt_abs : bootBuiltins (Str.ofString "abs") = some (.builtin "abs") := by decide +kernel
theorem bt_int : bootBuiltins (Str.ofString "int") = some (.type "int") := by decide +kernel
theorem bt_sum : bootBuiltins (Str.ofString "sum") = some (.builtin "sum") := by decide +kernel

section
variable {w : World} {A : Around} {E : Value → Shared → Prop} {s : Shared} {env : Env} {g0 fr g : G} {L : Addr} {m : Str → Option Value} {mu mu' : List (Addr × Obj)} {v : Value} {pos : Pos} {h : Heap} {vs ws : List Value} {k k2 : Nat} {l b : Addr}

theorem keepB {P : Prop} (B : Bs w g0) (S : St g0 fr g L m mu h) (x : P) : (hd.heap_39 w.params).In h ∧ P := ⟨S.kin B, x⟩

theorem rInt {i : Int} {k : Nat} {Q : Value → Shared → Prop} (h : ∀ t tb, Q (.int i t) { s with toks := tb }) : wpAny (model Pw w) A (eval (.Constant (.int i) k pos) env) Q E s := wpAny_Constant_int (h _ _)
theorem rStr {i : Str} {k : Nat} {Q : Value → Shared → Prop} (h : ∀ t tb, Q (.str i t) { s with toks := tb }) : wpAny (model Pw w) A (eval (.Constant (.str i) k pos) env) Q E s := wpAny_Constant_str (h _ _)
theorem rAddI {a b : Int} {t u : Tok} {Q : Value → Shared → Prop} (h : ∀ t tb, Q (.int (a + b) t) { s with toks := tb }) : wpAny (model Pw w) A (binaryOp .Add (.int a t) (.int b u)) Q E s := add_int (h _ _)
theorem rSubI {a b : Int} {t u : Tok} {Q : Value → Shared → Prop} (h : ∀ t tb, Q (.int (a - b) t) { s with toks := tb }) : wpAny (model Pw w) A (binaryOp .Sub (.int a t) (.int b u)) Q E s := sub_int (h _ _)

theorem St.frz {a : Addr} (S : St g0 fr g L m ((a, lsOf vs k) :: mu) h) : ∃ g', Le g g' ∧ LsG g' a vs ∧ St g0 fr g' L m mu h :=
  ⟨_, Le.ins (S.gm _ (.head _)), LsG.ins _ _ _ _, S.freeze⟩
theorem rNewTuple {Q : Value → Shared → Prop} (S : St g0 fr g L m mu s.heap) (hz : vs.length ≤ sizeLine)
    (h : ∀ a h' g', Le g g' → TpG g' a vs → St g0 fr g' L m mu h' → Q (.ref a) { s with heap := h' }) : wpAny (model Pw w) A (newTuple vs) Q E s :=
  wpAny_newObj_type (h _ _ _ (Le.ins (S.le.none (none_size _))) (TpG.ins _ _ _ _) (S.addG (fun _ _ e => Heap.get?_push_of_some _ e) (none_size _) (Heap.get?_push_size _ rfl))) (by show vs.toArray.size ≤ sizeLine; rw [List.size_toArray]; exact hz)
theorem rNewList {Q : Value → Shared → Prop} (S : St g0 fr g L m mu s.heap) (hz : vs.length ≤ sizeLine)
    (h : ∀ a h', St g0 fr g L m ((a, lsOf vs 0) :: mu) h' → Q (.ref a) { s with heap := h' }) : wpAny (model Pw w) A (newList vs) Q E s :=
  wpAny_newObj_type (h _ _ (S.addM (fun _ _ e => Heap.get?_push_of_some _ e) (none_size _) (Heap.get?_push_size _ rfl))) (by show vs.toArray.size ≤ sizeLine; rw [List.size_toArray]; exact hz)
theorem rAddL {Q : Value → Shared → Prop} (S : St g0 fr g L m mu s.heap) (hl : s.heap.get? l = some (lsOf vs k)) (hb : s.heap.get? b = some (lsOf ws k2)) (hz : vs.length + ws.length ≤ sizeLine)
    (h : ∀ a h', St g0 fr g L m ((a, lsOf (vs ++ ws) 0) :: mu) h' → Q (.ref a) { s with heap := h' }) : wpAny (model Pw w) A (binaryOp .Add (.ref l) (.ref b)) Q E s := by
  refine PySem.P.add_list (n := k) (n2 := k2) hl hb ?_ (by simpa using hz)
  have e : ({ cls := .type "list", data := .seq (vs.toArray ++ ws.toArray) } : Obj) = lsOf (vs ++ ws) 0 := by simp
  rw [e]
  exact h _ _ (S.addM (fun _ _ e => Heap.get?_push_of_some _ e) (none_size _) (Heap.get?_push_size _ rfl))
theorem rLenL {Q : Value → Shared → Prop} (hl : s.heap.IsList l vs.toArray) (hz : vs.length < 2 ^ 62) (h : ∀ t tb, Q (.int (vs.length : Nat) t) { s with toks := tb }) : wpAny (model Pw w) A (call (.builtin "len") [.ref l]) Q E s := by
  refine Calls.call_len_list hl (by simp only [List.size_toArray]; exact om_5 hz) ?_
  simp only [List.size_toArray]
  exact h _ _
theorem rMethL {name : Str} {id : String} {pl : Sem Bool} {Q : Value × List Value → Shared → Prop} (hl : s.heap.get? l = some (lsOf vs k)) (slot : Slot "list" name id) (hty : typeOf (.builtin id) = pure (.type "method_descriptor"))
    (h : Q (.builtin id, [.ref l]) s) : wpAny (model Pw w) A (getMethod (.ref l) name pl) Q E s :=
  getMethod_builtin ⟨_, hl, rfl⟩ PySem.F.plainAttrs_list slot hty (fun a e => by cases e; exact ⟨_, hl, rfl⟩) h
theorem rAppend {Q : Value → Shared → Prop} (S : St g0 fr g L m mu s.heap) (U : UpL l (lsOf vs k) (lsOf (vs ++ [v]) (k + 1)) mu mu') (hz : vs.length ≤ sizeLine)
    (h : ∀ h', St g0 fr g L m mu' h' → Q .none { s with heap := h' }) : wpAny (model Pw w) A (call (.builtin "list.append") [.ref l, v]) Q E s := by
  refine append_K (its := vs.toArray) S.fr0 (S.newsD U.mem) S.upl (fun h' F' N' => h h' (S.backD U F' ?_)) (by simpa using hz)
  simpa using N'
theorem rPop {Q : Value → Shared → Prop} (S : St g0 fr g L m mu s.heap) (U : UpL l (lsOf (vs ++ [v]) k) (lsOf vs (k + 1)) mu mu') (hz : vs.length < sizeLine)
    (h : ∀ h', St g0 fr g L m mu' h' → Q v { s with heap := h' }) : wpAny (model Pw w) A (call (.builtin "list.pop") [.ref l]) Q E s := by
  have e : kl_last (vs ++ [v]) = some (vs, v) := by
    have aux : ∀ xs : List Value, kl_last (xs ++ [v]) = some (xs, v) := by
      intro xs
      induction xs with
      | nil => rfl
      | cons x r ih => rw [List.cons_append, kl_last, ih]
    exact aux vs
  exact kl_pop (its := (vs ++ [v]).toArray) (p := vs) S.fr0 (S.newsD U.mem) (by simpa using e) S.upl (by simp; exact om_6 hz) (fun h' F' N' => h h' (S.backD U F' N'))
theorem rPop0 {Q : Value → Shared → Prop} {u : Tok} (S : St g0 fr g L m mu s.heap) (U : UpL l (lsOf (v :: vs) k) (lsOf vs (k + 1)) mu mu') (hz : vs.length < sizeLine)
    (h : ∀ h', St g0 fr g L m mu' h' → Q v { s with heap := h' }) : wpAny (model Pw w) A (call (.builtin "list.pop") [.ref l, .int 0 u]) Q E s :=
  kl_popAt (its := (v :: vs).toArray) (k := 0) (p := []) (q := vs) S.fr0 (S.newsD U.mem) (by decide +kernel) (by unfold seqIndex?; simp) rfl S.upl (by simp; exact om_6 hz) (fun h' F' N' => h h' (S.backD U F' N'))
theorem rExtend {Q : Value → Shared → Prop} (S : St g0 fr g L m mu s.heap) (hb : s.heap.get? b = some (lsOf ws k2)) (hne : b ≠ l) (hbL : b ≠ L) (U : UpL l (lsOf vs k) (lsOf (vs ++ ws) (if ws = [] then k else k + 1)) mu mu') (hz : vs.length + ws.length ≤ sizeLine)
    (h : ∀ h', St g0 fr g L m mu' h' → Q .none { s with heap := h' }) : wpAny (model Pw w) A (call (.builtin "list.extend") [.ref l, .ref b]) Q E s := by
  have hb' : (b, listOf ws.toArray k2) ∈ (l, lsOf vs k) :: Ev s.heap [l, L] := .tail _ (mem_Ev.mpr ⟨hb, by simp [hne, hbL]⟩)
  by_cases hw : ws = []
  · subst hw
    simp only [if_pos, List.append_nil] at U
    refine kxn_extend (its := vs.toArray) (its2 := #[]) (n2 := k2) S.fr0 (S.newsD U.mem) hb' rfl S.upl ?_ (by simpa using hz) (by simp at hz ⊢; exact om_7 hz) (fun h' F' N' => h h' (S.backD U F' N'))
    simp [Builtin.List.listTooLong]
    intro _; simpa using hz
  · rw [if_neg hw] at U
    refine kl_extend (its := vs.toArray) (its2 := ws.toArray) (l := vs ++ ws) (n2 := k2) S.fr0 (S.newsD U.mem) hb' (by simp) (by simpa using hw) S.upl ?_ (by simp; exact om_8 hz) (by simp; exact om_9 hz) (fun h' F' N' => h h' (S.backD U F' N'))
    simp [Builtin.List.listTooLong]
    intro _; exact hz
end


-- part F6
section
variable {w : World} {A : Around} {E : Value → Shared → Prop} {s : Shared} {env : Env} {g0 fr g : G} {L : Addr} {m : Str → Option Value} {mu mu' : List (Addr × Obj)} {v : Value} {pos : Pos} {h h' : Heap} {vs ws : List Value} {k k2 : Nat} {l b : Addr}

theorem eF {α : Type} {M : Model} {t : Sem α} {Q : α → Shared → Prop} (x : wpAny M A t Q (fun _ _ => False) s) : wpAny M A t Q E s := wpAny_mono x (fun _ _ q => q) fun _ _ q => q.elim

theorem rJoin {α : Type} {M : Model} {c : Bool} {t1 t2 : Sem α} {K : α → Shared → Prop} (Mid : α → Shared → Prop) (h1 : c = true → wpAny M A t1 Mid (fun _ _ => False) s) (h2 : c = false → wpAny M A t2 Mid (fun _ _ => False) s) (h : ∀ v s', Mid v s' → K v s') :
    if c = true then wpAny M A t1 K E s else wpAny M A t2 K E s := by
  cases c with
  | true => rw [if_pos rfl]; exact wpAny_mono (h1 rfl) h fun _ _ q => q.elim
  | false => rw [if_neg Bool.false_ne_true]; exact wpAny_mono (h2 rfl) h fun _ _ q => q.elim
theorem rUnpackT {t : Addr} {n : Nat} {Q : List Value → Shared → Prop} (hh : A.handled = none) (S : St g0 fr g L m mu s.heap) (ht : TpG g t vs) (hn : n = vs.length)
    (h : ∀ h', St g0 fr g L m mu h' → Q vs { s with heap := h' }) : wpAny (model Pw w) A (unpackItems (.ref t) n none) Q E s := by
  subst hn
  have := unpackItems_tuple (prog := Pw) (w := w) (E := E) (Q := Q) hh (ht.at S.le) fun h' he => by
    simpa using h h' (S.keep fun b o e => he b o (Nat.ne_of_lt (Heap.lt_size e)) e)
  simpa using this
theorem rListCopy {Q : Value → Shared → Prop} (S : St g0 fr g L m mu s.heap) (hl : s.heap.get? l = some (lsOf vs k)) (hz : vs.length ≤ sizeLine)
    (h : ∀ a c h', St g0 fr g L m ((a, lsOf vs c) :: mu) h' → Q (.ref a) { s with heap := h' }) : wpAny (model Pw w) A (call (.type "list") [.ref l]) Q E s :=
  call_list_seq (hsz := by simpa using hz) l (.inl rfl) hl rfl rfl fun h' c' hk hD => h _ c' h' (S.addM hk (none_size _) hD)
theorem rTupleOf {Q : Value → Shared → Prop} (S : St g0 fr g L m mu s.heap) (hl : s.heap.get? l = some (lsOf vs k)) (hz : vs.length ≤ sizeLine)
    (h : ∀ a h' g', Le g g' → TpG g' a vs → St g0 fr g' L m mu h' → Q (.ref a) { s with heap := h' }) : wpAny (model Pw w) A (call (.type "tuple") [.ref l]) Q E s := by
  refine call_tuple_list (items := vs.toArray) ⟨_, hl, rfl, _, rfl⟩ (fun h' hk => ?_) (by simpa using hz)
  have ha : s.heap.get? h'.objs.size = none := Le.none (g' := h'.get?) hk (none_size h')
  exact h _ _ _ (Le.ins (S.le.none ha)) (TpG.ins _ _ vs 0) (S.addG (fun b o e => Heap.get?_push_of_some _ (hk b o e)) ha (Heap.get?_push_size _ rfl))
theorem rNeNil {Q : Value → Shared → Prop} (hl : s.heap.get? l = some (lsOf vs k)) (hb : s.heap.get? b = some (lsOf [] k2)) (hu : A.units < cLine)
    (h : Q (.bool (!vs.isEmpty)) s) : wpAny (model Pw w) A (compareOp .NotEq (.ref l) (.ref b)) Q E s := by
  have hL : s.heap.IsList l vs.toArray := ⟨_, hl, rfl, _, rfl⟩
  have hB : s.heap.IsList b #[] := ⟨_, hb, rfl, _, rfl⟩
  cases vs with
  | nil => exact PySem.SeqAt.RcNeAt.lists (e := fun _ => true) hL hB rfl hu (fun j h1 h2 => nomatch h2) Pw w E Q (by simpa using h)
  | cons x r => exact PySem.SeqAt.RcNeAt.lists_lengths hL hB (by simp) hu Pw w E Q (by simpa using h)

theorem rRev {value : Expr} {p pu pc : Pos} {c : Nat} {Q : Value → Shared → Prop} (S : St g0 fr g L m mu s.heap) (hl : s.heap.get? l = some (lsOf vs k)) (hz : vs.length ≤ sizeLine)
    (h : ∀ a h' tb, St g0 fr g L m ((a, lsOf vs.reverse 0) :: mu) h' → Q (.ref a) { s with heap := h', toks := tb })
    (hs : ∀ a, ∃ ops, subscripted (.Slice none none (some (.UnaryOp .USub (.Constant (.int 1) c pc) pu)) p) false (.ref l) (.ref a) = operate ops (getItem (.ref l) (.ref a)) := by intro _; exact ⟨_, by with_unfolding_all rfl⟩) :
    wpAny (model Pw w) A (eval (.Slice none none (some (.UnaryOp .USub (.Constant (.int 1) c pc) pu)) p) env) (fun i s₂ => wpAny (model Pw w) A (subscriptTail value (.Slice none none (some (.UnaryOp .USub (.Constant (.int 1) c pc) pu)) p) (.ref l) i) Q E s₂) E s := by
  refine wpAny_Slice ?_
  refine wpAny_pure (wpAny_pure ?_)
  rw [evalPart_some]
  refine UnaryOp_ (wpAny_Constant_int (neg_int ?_))
  dsimp only
  obtain ⟨ops, hs⟩ := hs s.heap.objs.size
  have hL : (s.heap.push { cls := .type "slice", data := .fields #[.none, .none, .int (-1) (s.toks + 1)] }).IsList l vs.toArray := ⟨_, Heap.get?_push_of_some _ hl, rfl, _, rfl⟩
  refine tail_any (ops := ops) (Heap.IsList.typeIs hL) list_getitem_lookup (wpAny_getItem_list_slice hL (Heap.IsSliceOf.new ..) .none .none (.int (-1) _) (by decide) ?_ (by simpa using hz)) hs
  rw [krv_pick]
  have S1 := S.keep (fun b o e => Heap.get?_push_of_some { cls := .type "slice", data := .fields #[.none, .none, .int (-1) (s.toks + 1)] } e)
  have := h _ _ (s.toks + 1 + 1) (S1.addM (fun _ _ e => Heap.get?_push_of_some (lsOf vs.reverse 0) e) (none_size _) (Heap.get?_push_size _ rfl))
  exact this

theorem rWhile {test : Expr} {body : List Stmt} {J : Nat → Heap → Prop} {Q : Flow → Shared → Prop} (n : Nat) (h0 : J n s.heap)
    (turn : ∀ n h tk (KK : Flow → Shared → Prop), (∀ m h' tk', m < n → J m h' → KK .next { s with heap := h', toks := tk' }) → J n h → wpAny (model Pw w) A (isTrue test env (eval test env)) (fun b s₂ => if b = true then wpAny (model Pw w) A (execs body env) KK (fun _ _ => False) s₂
      else Q .next s₂) (fun _ _ => False) { s with heap := h, toks := tk }) : wpAny (model Pw w) A (exec (.While test body [] pos) env) Q E s := by
  refine wpAny_While (codeAny_whileLoop (fun n s' => ∃ h tk, s' = { s with heap := h, toks := tk } ∧ J n h) ?_ n ⟨s.heap, s.toks, rfl, h0⟩)
  rintro n _ ⟨h, tk, rfl, hJ⟩
  refine wpAny_mono (turn n h tk (fun f s₃ => f = .next ∧ ∃ m h' tk', m < n ∧ s₃ = { s with heap := h', toks := tk' } ∧ J m h') (fun m h' tk' hm hJ' => ⟨rfl, m, h', tk', hm, rfl, hJ'⟩) hJ) (fun b s₂ hb => ?_) fun _ _ q => q.elim
  cases b with
  | true =>
    rw [if_pos rfl] at hb ⊢
    refine wpAny_mono hb (fun f s₃ hf => ?_) fun _ _ q => q.elim
    obtain ⟨rfl, m, h', tk', hm, rfl, hJ'⟩ := hf
    exact ⟨m, hm, h', tk', rfl, hJ'⟩
  | false =>
    rw [if_neg Bool.false_ne_true] at hb ⊢
    exact wpAny_execs_nil hb

theorem its_of {wr : List Addr} (hw : ∀ b ∈ wr, ∃ o, h.get? b = some o) : ∃ its : List (Addr × Obj), its.map Prod.fst = wr ∧ ∀ p ∈ its, h.get? p.1 = some p.2 := by
  induction wr with
  | nil => exact ⟨[], rfl, fun _ hp => nomatch hp⟩
  | cons b r ih =>
    obtain ⟨o, ho⟩ := hw b (.head _)
    obtain ⟨its, h1, h2⟩ := ih fun b hb => hw b (.tail _ hb)
    refine ⟨(b, o) :: its, by rw [List.map_cons, h1], fun p hp => ?_⟩
    rcases List.mem_cons.mp hp with rfl | hp
    · exact ho
    · exact h2 p hp

/-- the iterator's own objects go on -/
theorem St.walk {its its' : List (Addr × Obj)} (S : St g0 fr g L m (mu ++ its) h) (e : its'.map Prod.fst = its.map Prod.fst) (hi : ∀ p ∈ its', h'.get? p.1 = some p.2)
    (hk : ∀ b o, b ∉ its.map Prod.fst → h.get? b = some o → h'.get? b = some o) : St g0 fr g L m (mu ++ its') h' := by
  have hin : ∀ b, b ∈ its.map Prod.fst → ∃ o, (b, o) ∈ its := fun b hb => by
    obtain ⟨p, hp, rfl⟩ := List.mem_map.mp hb; exact ⟨p.2, hp⟩
  have off : ∀ p ∈ its', ∃ o, (p.1, o) ∈ mu ++ its := fun p hp => by
    obtain ⟨o, ho⟩ := hin p.1 (e ▸ List.mem_map_of_mem hp)
    exact ⟨o, List.mem_append.mpr (.inr ho)⟩
  have nodup := S.nd
  rw [List.map_append] at nodup
  have apart : ∀ p ∈ mu, p.1 ∉ its.map Prod.fst := fun p hp hm => (List.nodup_append.mp nodup).2.2 p.1 (List.mem_map_of_mem hp) p.1 hm rfl
  have hg : ∀ b o, g b = some o → b ∉ its.map Prod.fst := fun b o q hm => by
    obtain ⟨o', ho'⟩ := hin b hm
    have := S.gm _ (List.mem_append.mpr (.inr ho')); dsimp only at this; rw [q] at this; cases this
  have hf : ∀ b o, fr b = some o → b ∉ its.map Prod.fst := fun b o q hm => by
    obtain ⟨o', ho'⟩ := hin b hm
    have := S.fm _ (List.mem_append.mpr (.inr ho')); dsimp only at this; rw [q] at this; cases this
  have hL : L ∉ its.map Prod.fst := fun hm => by
    obtain ⟨o', ho'⟩ := hin L hm
    exact S.mL _ (List.mem_append.mpr (.inr ho')) rfl
  refine ⟨⟨fun b o q => hk b o (hf b o q) (S.gr.frm b o q), S.gr.le, fun b o q => hk b o (hg b o q) (S.gr.im b o q), S.gr.new⟩, S.ns.at' (fun o q => hk L o hL q), ?_, S.gL, S.fL, ?_, ?_, ?_, ?_⟩
  · intro p hp
    rcases List.mem_append.mp hp with hp | hp
    · exact hk _ _ (apart p hp) (S.mt p (List.mem_append.mpr (.inl hp)))
    · exact hi p hp
  · intro p hp
    rcases List.mem_append.mp hp with hp | hp
    · exact S.gm p (List.mem_append.mpr (.inl hp))
    · obtain ⟨o, ho⟩ := off p hp; exact S.gm (p.1, o) ho
  · intro p hp
    rcases List.mem_append.mp hp with hp | hp
    · exact S.fm p (List.mem_append.mpr (.inl hp))
    · obtain ⟨o, ho⟩ := off p hp; exact S.fm (p.1, o) ho
  · intro p hp
    rcases List.mem_append.mp hp with hp | hp
    · exact S.mL p (List.mem_append.mpr (.inl hp))
    · obtain ⟨o, ho⟩ := off p hp; exact S.mL (p.1, o) ho
  · rw [List.map_append, e]; exact nodup
theorem St.left {its : List (Addr × Obj)} (S : St g0 fr g L m (mu ++ its) h) : St g0 fr g L m mu h := S.sub (List.sublist_append_left _ _)

theorem St.ne01 {p q : Addr × Obj} (S : St g0 fr g L m (p :: q :: mu) h) : p.1 ≠ q.1 := fun e => by
  have := S.nd
  rw [List.map_cons, List.nodup_cons] at this
  exact this.1 (by rw [e]; exact .head _)
theorem forW {target : Expr} {body : List Stmt} {RR : Result → Shared → Prop} {I : Addr} {fp wr : List Addr} {n : Nat} {P : Nat → Value → Prop} {Wst : Nat → Heap → Prop} {its : List (Addr × Obj)}
    {J : Nat → G → (Str → Option Value) → List (Addr × Obj) → Prop}
    (W : Walks Pw w A I fp wr n P Wst) (hlive : ∀ i h, Wst i h → ∀ b ∈ wr, ∃ o, h.get? b = some o) (hfp : ∀ b ∈ fp, b ∈ wr ∨ ∃ o, g b = some o) (hits : its.map Prod.fst = wr)
    (S : St g0 fr g env.locals m (mu ++ its) s.heap) (st0 : Wst 0 s.heap) (h0 : J 0 g m mu)
    (turn : ∀ i v g' m' mu' X h tk (KK : Flow → Shared → Prop), (∀ g'' m'' mu'' h' tk', Le g' g'' → St g0 fr g'' env.locals m'' (mu'' ++ X) h' → J (i + 1) g'' m'' mu'' → KK .next { s with heap := h', toks := tk' }) → i < n → P i v → J i g' m' mu' → Le g g' → St g0 fr g' env.locals m' (mu' ++ X) h →
      wpAny (model Pw w) A (assign target env v) (fun _ s₂ => wpAny (model Pw w) A (execs body env) KK (fun _ _ => False) s₂) (fun _ _ => False) { s with heap := h, toks := tk })
    (done : ∀ g' m' mu' h tk, J n g' m' mu' → Le g g' → St g0 fr g' env.locals m' mu' h → RR (.ok .next) { s with heap := h, toks := tk })
    (ht : ∀ v, letOwnedTupleGo target (.ref I) v = pure () := by intro _; rfl) :
    codeAny (model Pw w) A (.forLoop target (.ref I) body [] env) RR s := by
  refine codeAny_forLoop (fun k s' => ∃ i g' m' mu' its h tk, s' = { s with heap := h, toks := tk } ∧ Wst i h ∧ its.map Prod.fst = wr ∧ Le g g' ∧ St g0 fr g' env.locals m' (mu' ++ its) h ∧ J i g' m' mu' ∧ i ≤ n ∧ k = n + 1 - i) ?_ (n + 1)
    ⟨0, g, m, mu, its, s.heap, s.toks, rfl, st0, hits, Le.refl _, S, h0, Nat.zero_le _, rfl⟩ ht
  intro k sx hx
  refine hide fun PP kP => ?_
  obtain ⟨i, g', m', mu', its, h, tk, rfl, hst, he, hle, S', hJ, hi, rfl⟩ := hx
  refine kP ?_
  clear kP PP
  by_cases hlt : i < n
  · refine W.item i _ _ _ hlt hst fun v h₁ tk₁ hPv hst₁ hk₁ => ?_
    obtain ⟨its', e', hi'⟩ := its_of (hlive _ _ hst₁)
    have S₁ := S'.walk (e'.trans he.symm) hi' (fun b o hb => hk₁ b o (he ▸ hb))
    refine wpAny_mono (turn i v g' m' mu' its' h₁ tk₁ _ (fun g'' m'' mu'' h' tk' hle' S'' hJ' => ?_) hlt hPv hJ hle S₁) (fun _ s₂ h₂ => wpAny_mono h₂ (fun _ _ q => q) fun _ _ q => q.elim) fun _ _ q => q.elim
    refine ⟨n + 1 - (i + 1), by exact om_10 hlt, i + 1, g'', m'', mu'', its', h', tk', rfl, ?_, e', hle.trans hle', S'', hJ', hlt, rfl⟩
    refine W.frame _ _ _ hst₁ fun b hb o q => ?_
    rcases hfp b hb with hw | ⟨o', ho'⟩
    · obtain ⟨p, hp, rfl⟩ := List.mem_map.mp (e'.symm ▸ hw)
      have h1 := hi' p hp
      rw [h1] at q; cases q
      exact S''.mt p (List.mem_append.mpr (.inr hp))
    · have h1 := S₁.le _ _ (hle _ _ ho')
      rw [h1] at q; cases q
      exact S''.le _ _ (hle' _ _ (hle _ _ ho'))
  · have hin : i = n := by exact om_11 hi hlt
    subst hin
    refine W.done _ _ _ hst fun h₁ tk₁ hk₁ => wpAny_execs_nil ?_
    refine done g' m' mu' h₁ tk₁ hJ hle ?_
    have := S'.walk (its' := []) (its := its) (h' := h₁)
    have S₂ : St g0 fr g' env.locals m' mu' h₁ := by
      have nodup := S'.nd
      rw [List.map_append] at nodup
      have hin : ∀ b, b ∈ wr → ∃ o, (b, o) ∈ mu' ++ its := fun b hb => by
        obtain ⟨p, hp, rfl⟩ := List.mem_map.mp (he.symm ▸ hb : b ∈ its.map Prod.fst); exact ⟨p.2, List.mem_append.mpr (.inr hp)⟩
      have S0 := S'.left
      refine ⟨⟨fun b o q => hk₁ b o (fun hm => ?_) (S'.gr.frm b o q), S'.gr.le, fun b o q => hk₁ b o (fun hm => ?_) (S'.gr.im b o q), S'.gr.new⟩, S'.ns.at' (fun o q => hk₁ _ o (fun hm => ?_) q), fun p hp => hk₁ _ _ (fun hm => ?_) (S0.mt p hp), S0.gL, S0.fL, S0.gm, S0.fm, S0.mL, S0.nd⟩
      · obtain ⟨o', ho'⟩ := hin b hm; have := S'.fm _ ho'; dsimp only at this; rw [q] at this; cases this
      · obtain ⟨o', ho'⟩ := hin b hm; have := S'.gm _ ho'; dsimp only at this; rw [q] at this; cases this
      · obtain ⟨o', ho'⟩ := hin _ hm; exact S'.mL _ ho' rfl
      · exact (List.nodup_append.mp nodup).2.2 p.1 (List.mem_map_of_mem hp) p.1 (he.symm ▸ hm) rfl
    exact S₂
end


-- part F7
noncomputable def T.key : T → Int
  | .mk n ks => if n > 0 then n else match ks with
    | t :: _ => t.n
    | [] => 0

noncomputable def better (n hn : Int) (rn rh : Bool) : Bool := if hn = 0 then false else n = 0 || (rh && !rn)
noncomputable def re (tab : Tab) (n : Int) : Bool := match tab.lookup n with | some (_, r) => r | none => false
noncomputable def bs (tab : Tab) (n : Int) : Str := match tab.lookup n with | some (b, _) => b | none => Str.empty
noncomputable def joinT (tab : Tab) (held node : T) : T :=
  if held.n = 0 then .mk 0 (held.ks ++ (if node.n = 0 then node.ks else [node]))
  else if re tab node.n && !re tab held.n then .mk held.n (held.ks ++ [node])
  else .mk 0 [held, node]
theorem re_of {tab : Tab} {n : Int} {b r} (e : tab.lookup n = some (b, r)) : re tab n = r := by simp [re, e]

theorem NTs.app {w : World} {g : G} {vs ws : List Value} {ts us : List T} (x : NTs w g vs ts) (y : NTs w g ws us) : NTs w g (vs ++ ws) (ts ++ us) := by
  induction vs generalizing ts with
  | nil => cases x; exact y
  | cons v r ih => cases x with | cons a b => exact .cons a (ih b)

theorem NTs.len {w : World} {g : G} {vs : List Value} {ts : List T} (x : NTs w g vs ts) : vs.length = ts.length := by
  induction vs generalizing ts with
  | nil => cases x; rfl
  | cons v r ih => cases x with | cons a b => simp [ih b]
theorem LTs.app {g : G} {vs ws : List Value} {ts us : List T} (x : LTs g vs ts) (y : LTs g ws us) : LTs g (vs ++ ws) (ts ++ us) := by
  induction vs generalizing ts with
  | nil => cases x; exact y
  | cons v r ih => cases x with | cons a b => exact .cons a (ih b)
theorem LTs.len {g : G} {vs : List Value} {ts : List T} (x : LTs g vs ts) : vs.length = ts.length := by
  induction vs generalizing ts with
  | nil => cases x; rfl
  | cons v r ih => cases x with | cons a b => simp [ih b]

mutual
noncomputable def T.pre : T → List T
  | .mk n ks => .mk n ks :: pres ks
noncomputable def pres : List T → List T
  | [] => []
  | t :: ts => t.pre ++ pres ts
end
mutual
noncomputable def T.size : T → Nat
  | .mk _ ks => 1 + sizes ks
noncomputable def sizes : List T → Nat
  | [] => 0
  | t :: ts => t.size + sizes ts
end
theorem pres_app (a b : List T) : pres (a ++ b) = pres a ++ pres b := by
  induction a with
  | nil => simp [pres]
  | cons t r ih => simp [pres, ih]
theorem sizes_app (a b : List T) : sizes (a ++ b) = sizes a + sizes b := by
  induction a with
  | nil => simp [sizes]
  | cons t r ih => simp [sizes, ih]; exact om_12
theorem len_sizes (ts : List T) : ts.length ≤ sizes ts := by
  induction ts with
  | nil => simp [sizes]
  | cons t r ih => cases t with | mk n ks => simp [sizes, T.size]; exact om_13 ih
mutual
theorem pre_len : ∀ t : T, t.pre.length = t.size
  | .mk n ks => by simp [T.pre, T.size, pres_len ks]; exact om_14
theorem pres_len : ∀ ts : List T, (pres ts).length = sizes ts
  | [] => by simp [pres, sizes]
  | t :: ts => by simp [pres, sizes, pre_len t, pres_len ts]
end

theorem NTs.get {w : World} {g : G} {vs : List Value} {ts : List T} (x : NTs w g vs ts) {i : Nat} {v : Value} (e : vs[i]? = some v) : ∃ t, ts[i]? = some t ∧ NT w g v t := by
  induction vs generalizing ts i with
  | nil => simp at e
  | cons u r ih =>
    cases x with
    | cons a b =>
      cases i with
      | zero => simp at e; subst e; exact ⟨_, rfl, a⟩
      | succ i => simp at e; obtain ⟨t, h1, h2⟩ := ih b e; exact ⟨t, by simpa using h1, h2⟩
theorem LTs.get {g : G} {vs : List Value} {ts : List T} (x : LTs g vs ts) {i : Nat} {v : Value} (e : vs[i]? = some v) : ∃ t, ts[i]? = some t ∧ LT g v t := by
  induction vs generalizing ts i with
  | nil => simp at e
  | cons u r ih =>
    cases x with
    | cons a b =>
      cases i with
      | zero => simp at e; subst e; exact ⟨_, rfl, a⟩
      | succ i => simp at e; obtain ⟨t, h1, h2⟩ := ih b e; exact ⟨t, by simpa using h1, h2⟩
theorem TTs.app {g : G} {vs ws : List Value} {ts us : List T} (x : TTs g vs ts) (y : TTs g ws us) : TTs g (vs ++ ws) (ts ++ us) := by
  induction vs generalizing ts with
  | nil => cases x; exact y
  | cons v r ih => cases x with | cons a b => exact .cons a (ih b)
theorem TTs.len {g : G} {vs : List Value} {ts : List T} (x : TTs g vs ts) : vs.length = ts.length := by
  induction vs generalizing ts with
  | nil => cases x; rfl
  | cons v r ih => cases x with | cons a b => simp [ih b]
theorem take_one {α : Type} {l : List α} {i : Nat} {a : α} (e : l[i]? = some a) : l.take (i + 1) = l.take i ++ [a] := by
  rw [List.take_add_one, e]; rfl


-- part F8
section
variable {w : World} {A : Around} {E : Value → Shared → Prop} {s : Shared} {env : Env} {g0 fr g : G} {L C : Addr} {m mc : Str → Option Value} {mu mu' : List (Addr × Obj)} {v : Value} {pos : Pos} {h h' : Heap} {vs ws : List Value} {k k2 : Nat} {l b : Addr} {oL : Obj}

noncomputable def IsNs (o : Obj) (m : Str → Option Value) : Prop := ∃ es ep, o.data = .dict es ep ∧ StrKeys es ∧ ∀ name, nsFind es name = m name
theorem St.inner (S : St g0 fr g L m mu h) (hk : ∀ b o, h.get? b = some o → h'.get? b = some o) (hC : h.get? C = none) (hn : h'.Ns C mc) : ∃ oL, IsNs oL m ∧ St g0 fr g C mc ((L, oL) :: mu) h' := by
  obtain ⟨oL, es, ep, e1, e2, e3, e4⟩ := S.ns
  have S' := S.keep hk
  have hLC : L ≠ C := by rintro rfl; rw [hC] at e1; cases e1
  refine ⟨oL, ⟨es, ep, e2, e3, e4⟩, S'.gr, hn, ?_, S.le.none hC, S.gr.frm.none hC, ?_, ?_, ?_, ?_⟩
  · intro p hp; rcases List.mem_cons.mp hp with rfl | hp
    · exact hk _ _ e1
    · exact S'.mt p hp
  · intro p hp; rcases List.mem_cons.mp hp with rfl | hp
    · exact S.gL
    · exact S.gm p hp
  · intro p hp; rcases List.mem_cons.mp hp with rfl | hp
    · exact S.fL
    · exact S.fm p hp
  · intro p hp; rcases List.mem_cons.mp hp with rfl | hp
    · exact hLC
    · rintro rfl; have := S.mt p hp; rw [hC] at this; cases this
  · rw [List.map_cons, List.nodup_cons]
    refine ⟨fun hm => ?_, S.nd⟩
    obtain ⟨p, hp, e⟩ := List.mem_map.mp hm
    exact S.mL p hp e
theorem St.outer (S : St g0 fr g C mc ((L, oL) :: mu) h) (x : IsNs oL m) : St g0 fr g L m mu h := by
  obtain ⟨es, ep, e2, e3, e4⟩ := x
  have hm : (L, oL) ∈ (L, oL) :: mu := .head _
  refine ⟨S.gr, ⟨oL, es, ep, S.mt _ hm, e2, e3, e4⟩, fun p hp => S.mt p (.tail _ hp), S.gm _ hm, S.fm _ hm, fun p hp => S.gm p (.tail _ hp), fun p hp => S.fm p (.tail _ hp), fun p hp e => ?_, ?_⟩
  · have := S.nd
    rw [List.map_cons, List.nodup_cons] at this
    exact this.1 (List.mem_map.mpr ⟨p, hp, e⟩)
  · have := S.nd; rw [List.map_cons, List.nodup_cons] at this; exact this.2

theorem St.outerB (S : St g0 fr g C mc ((L, oL) :: mu) h) (x : IsNs oL m) (hs : Heap.SameBut C h h') : St g0 fr g L m mu h' := by
  have S1 := S.outer x
  have hm : (L, oL) ∈ (L, oL) :: mu := .head _
  have nb : ∀ b o, fr b = some o → b ≠ C := by rintro b o e rfl; rw [S.fL] at e; cases e
  have nc : ∀ b o, g b = some o → b ≠ C := by rintro b o e rfl; rw [S.gL] at e; cases e
  exact ⟨⟨fun b o e => (hs.2 b (nb b o e)).trans (S1.gr.frm b o e), S1.gr.le, fun b o e => (hs.2 b (nc b o e)).trans (S1.gr.im b o e), S1.gr.new⟩, S1.ns.sameBut hs (S.mL _ hm),
    fun p hp => (hs.2 _ (S.mL p (.tail _ hp))).trans (S1.mt p hp), S1.gL, S1.fL, S1.gm, S1.fm, S1.mL, S1.nd⟩
noncomputable abbrev compTestsAt (ifs : List Expr) (cenv : Env) : Sem Bool := forIn ifs true fun c r => if r = true then do let ok ← isTrue c cenv (eval c cenv); pure (ForInStep.yield ok) else pure (ForInStep.yield r)

theorem compCore {elt iter : Expr} {x : Str} {px : Pos} {ifs : List Expr} {scope : Scope} {cl : List (Str × Addr)} {cpos : Pos} {RR : Value → Addr → Result → Shared → Prop} {I : Addr} {fp wr : List Addr} {n : Nat} {P : Nat → Value → Prop} {Wst : Nat → Heap → Prop} {its : List (Addr × Obj)}
    {J : Nat → G → List Value → Prop}
    (W : Walks Pw w A I fp wr n P Wst) (hsz : n ≤ sizeLine) (hlive : ∀ i h, Wst i h → ∀ b ∈ wr, ∃ o, h.get? b = some o) (hfp : ∀ b ∈ fp, b ∈ wr ∨ ∃ o, g b = some o) (hits : its.map Prod.fst = wr)
    (S : St g0 fr g L m (mu ++ its) s.heap) (st0 : Wst 0 s.heap) (h0 : J 0 g [])
    (hcell : ∀ y ∈ scope.names, y.2 ≠ .cell) (hkind : scope.kind = .function) (hx : scope.names.lookup x = some .local)
    (turn : ∀ i v g' ys C mc X h tk (KY : Value → Shared → Prop) (KN : Shared → Prop), (∀ y g'' mc' h' tk', Le g' g'' → St g0 fr g'' C mc' (mu ++ X) h' → J (i + 1) g'' (ys ++ [y]) → KY y { s with heap := h', toks := tk' }) →
      (∀ g'' mc' h' tk', Le g' g'' → St g0 fr g'' C mc' (mu ++ X) h' → J (i + 1) g'' ys → KN { s with heap := h', toks := tk' }) → i < n → P i v → J i g' ys → ys.length ≤ i → Le g g' → mc x = some v → St g0 fr g' C mc (mu ++ X) h →
      wpAny (model Pw w) A (compTestsAt ifs (compEnvC scope cl C env)) (fun ok s₃ => if ok = true then wpAny (model Pw w) A (eval elt (compEnvC scope cl C env)) KY (fun _ _ => False) s₃ else KN s₃) (fun _ _ => False) { s with heap := h, toks := tk })
    (fin : ∀ D C g' ys k h tk mc oL, J n g' ys → Le g g' → ys.length ≤ n → IsNs oL m → St g0 fr g' C mc ((L, oL) :: (D, lsOf ys k) :: mu) h → RR (.ref D) C (.ok .next) { s with heap := h, toks := tk }) :
    wpAny (model Pw w) A (newList []) (fun acc s₃ => wpAny (model Pw w) A (newFunctionEnv scope env.globals cl [] env.qual none .none (some env)) (fun cenv s₄ =>
      codeAny (model Pw w) A (.compStart (.ListComp elt [⟨.Name x px, iter, ifs, 0⟩] scope cpos) 0 (.ref I) acc { cenv with scope := relabel scope env }) (RR acc cenv.locals) s₄) E s₃) E s := by
  refine wpAny_newObj_type (wpAny_newFunctionEnv hcell (by intro y hy; simp at hy) (fun h₁ hns₁ hsb₁ => ?_) hkind)
  dsimp only at hns₁ hsb₁ ⊢
  generalize hH2 : s.heap.push { cls := .type "list", dict := none, data := .seq ([] : List Value).toArray } = H2 at hns₁ hsb₁ ⊢
  have k2 : ∀ b o, s.heap.get? b = some o → H2.get? b = some o := fun b o e => hH2 ▸ Heap.get?_push_of_some _ e
  have hD2 : H2.get? s.heap.objs.size = some (lsOf [] 0) := hH2 ▸ Heap.get?_push_size _ rfl
  have S2 := S.addM k2 (none_size _) hD2
  have k3 : ∀ b o, H2.get? b = some o → h₁.get? b = some o := fun b o e => hsb₁.extBut b o (Nat.ne_of_lt (Heap.lt_size e)) (Heap.get?_push_of_some _ e)
  obtain ⟨oL, hoL, S3⟩ := S2.inner k3 (none_size _) hns₁
  have S4 : St g0 fr g H2.objs.size _ (mu ++ ((L, oL) :: (s.heap.objs.size, lsOf [] 0) :: its)) h₁ := S3.perm (by
    have : List.Perm ((L, oL) :: (s.heap.objs.size, lsOf [] 0) :: (mu ++ its)) (((L, oL) :: (s.heap.objs.size, lsOf [] 0) :: mu) ++ its) := List.Perm.refl _
    refine this.trans ?_
    have e : mu ++ ((L, oL) :: (s.heap.objs.size, lsOf [] 0) :: its) = (mu ++ [(L, oL), (s.heap.objs.size, lsOf [] 0)]) ++ its := by simp
    rw [e]
    exact (List.perm_append_comm (l₁ := [(L, oL), (s.heap.objs.size, lsOf [] 0)]) (l₂ := mu)).append_right its)
  have st1 : Wst 0 h₁ := W.frame _ _ _ st0 fun b _ o e => k3 b o (k2 b o e)
  have hxl : (compEnvC scope cl H2.objs.size env).kindOf x = some .local := lookup_relabel_local hx
  have hpl : ((compEnvC scope cl H2.objs.size env).scope.kind == .class || ((compEnvC scope cl H2.objs.size env).scope.kind == .module && (compEnvC scope cl H2.objs.size env).locals != (compEnvC scope cl H2.objs.size env).globals)) = false := by simp [compEnvC, relabel, hkind]
  have loop : ∀ s₃ : Shared, s₃ = { s with heap := h₁, toks := s.toks + ([] : List (Str × Value)).length } →
      codeAny (model Pw w) A (.compLoop (.ListComp elt [⟨.Name x px, iter, ifs, 0⟩] scope cpos) 0 (.ref I) (.ref s.heap.objs.size) (compEnvC scope cl H2.objs.size env))
        (RR (.ref s.heap.objs.size) H2.objs.size) s₃ := by
    rintro s₃ rfl
    refine codeAny_compLoop_tests (fun q s' => ∃ i g' ys kk mc its h tk, s' = { s with heap := h, toks := tk } ∧ Wst i h ∧ its.map Prod.fst = wr ∧ Le g g' ∧ St g0 fr g' H2.objs.size mc (mu ++ ((L, oL) :: (s.heap.objs.size, lsOf ys kk) :: its)) h ∧ J i g' ys ∧ ys.length ≤ i ∧ i ≤ n ∧ q = n + 1 - i) ?_ (n + 1)
      ⟨0, g, [], 0, _, its, h₁, _, rfl, st1, hits, Le.refl _, S4, h0, Nat.le_refl _, Nat.zero_le _, rfl⟩
    intro q sx hx
    refine hide fun PP kP => ?_
    obtain ⟨i, g', ys, kk, mc, its, h, tk, rfl, hst, he, hle, S', hJ, hys, hi, rfl⟩ := hx
    refine kP ?_
    clear kP PP
    have e0 : ∀ its : List (Addr × Obj), mu ++ ((L, oL) :: (s.heap.objs.size, lsOf ys kk) :: its) = (mu ++ [(L, oL), (s.heap.objs.size, lsOf ys kk)]) ++ its := by intro its; simp
    by_cases hlt : i < n
    · refine W.item i _ _ _ hlt hst fun v h₂ tk₂ hPv hst₂ hk₂ => ?_
      obtain ⟨its', e', hi'⟩ := its_of (hlive _ _ hst₂)
      rw [e0] at S'
      have S₂ := S'.walk (e'.trans he.symm) hi' (fun b o hb => hk₂ b o (he ▸ hb))
      rw [← e0] at S₂
      refine wpAny_assign_Name (wpAny_storeName_local hxl S₂.ns (fun h₃ hn₃ hs₃ => ?_) hpl)
      have S₃ := S₂.store hn₃ hs₃
      have st₃ : ∀ g'' mc' yy kk' h', Le g' g'' → St g0 fr g'' H2.objs.size mc' (mu ++ ((L, oL) :: (s.heap.objs.size, lsOf yy kk') :: its')) h' → Wst (i + 1) h' := fun g'' mc' yy kk' h' hle' S'' => by
        refine W.frame _ _ _ hst₂ fun b hb o q => ?_
        rcases hfp b hb with hw | ⟨o', ho'⟩
        · obtain ⟨p, hp, rfl⟩ := List.mem_map.mp (e'.symm ▸ hw)
          have h1 := hi' p hp
          rw [h1] at q; cases q
          exact S''.mt p (by simp [hp])
        · have h1 := S₂.le _ _ (hle _ _ ho')
          rw [h1] at q; cases q
          exact S''.le _ _ (hle' _ _ (hle _ _ ho'))
      refine wpAny_mono (turn i v g' ys _ _ _ h₃ _
        (fun y s₄ => ∃ g'' mc' h' tk', s₄ = { s with heap := h', toks := tk' } ∧ Le g' g'' ∧ St g0 fr g'' H2.objs.size mc' (mu ++ ((L, oL) :: (s.heap.objs.size, lsOf ys kk) :: its')) h' ∧ J (i + 1) g'' (ys ++ [y]))
        (fun s₄ => ∃ g'' mc' h' tk', s₄ = { s with heap := h', toks := tk' } ∧ Le g' g'' ∧ St g0 fr g'' H2.objs.size mc' (mu ++ ((L, oL) :: (s.heap.objs.size, lsOf ys kk) :: its')) h' ∧ J (i + 1) g'' ys)
        (fun y g'' mc' h' tk' a b c => ⟨g'', mc', h', tk', rfl, a, b, c⟩) (fun g'' mc' h' tk' a b c => ⟨g'', mc', h', tk', rfl, a, b, c⟩) hlt hPv hJ hys hle (by simp) S₃) (fun ok s₃ h₄ => ?_) fun _ _ q => q.elim
      cases ok with
      | true =>
        rw [if_pos rfl] at h₄ ⊢
        refine wpAny_mono h₄ (fun y s₄ h₅ => ?_) fun _ _ q => q.elim
        obtain ⟨g'', mc', h', tk', rfl, hle', S'', hJ'⟩ := h₅
        refine rAppend S'' (UpL.app (.there .here)) (by exact om_15 hsz hys hlt) fun h'' S'' => ?_
        refine ⟨n + 1 - (i + 1), by exact om_10 hlt, i + 1, g'', ys ++ [y], _, mc', its', h'', tk', rfl, st₃ _ _ _ _ _ hle' S'', e', hle.trans hle', S'', hJ', by simp; exact om_16 hys, hlt, rfl⟩
      | false =>
        rw [if_neg Bool.false_ne_true] at h₄ ⊢
        obtain ⟨g'', mc', h', tk', rfl, hle', S'', hJ'⟩ := h₄
        exact ⟨n + 1 - (i + 1), by exact om_10 hlt, i + 1, g'', ys, _, mc', its', h', tk', rfl, st₃ _ _ _ _ _ hle' S'', e', hle.trans hle', S'', hJ', by exact om_7 hys, hlt, rfl⟩
    · have hin : i = n := by exact om_11 hi hlt
      subst hin
      refine W.done _ _ _ hst fun h₂ tk₂ hk₂ => ?_
      have nodup := S'.nd
      rw [e0, List.map_append] at nodup
      have hin : ∀ b, b ∈ wr → ∃ o, (b, o) ∈ mu ++ ((L, oL) :: (s.heap.objs.size, lsOf ys kk) :: its) := fun b hb => by
        obtain ⟨p, hp, rfl⟩ := List.mem_map.mp (he.symm ▸ hb : b ∈ its.map Prod.fst); exact ⟨p.2, by simp [hp]⟩
      have S5 : St g0 fr g' H2.objs.size mc (mu ++ [(L, oL), (s.heap.objs.size, lsOf ys kk)]) h := by rw [e0] at S'; exact S'.left
      have S6 : St g0 fr g' H2.objs.size mc (mu ++ [(L, oL), (s.heap.objs.size, lsOf ys kk)]) h₂ := by
        refine ⟨⟨fun b o q => hk₂ b o (fun hm => ?_) (S'.gr.frm b o q), S'.gr.le, fun b o q => hk₂ b o (fun hm => ?_) (S'.gr.im b o q), S'.gr.new⟩, S'.ns.at' (fun o q => hk₂ _ o (fun hm => ?_) q), fun p hp => hk₂ _ _ (fun hm => ?_) (S5.mt p hp), S5.gL, S5.fL, S5.gm, S5.fm, S5.mL, S5.nd⟩
        · obtain ⟨o', ho'⟩ := hin b hm; have := S'.fm _ ho'; dsimp only at this; rw [q] at this; cases this
        · obtain ⟨o', ho'⟩ := hin b hm; have := S'.gm _ ho'; dsimp only at this; rw [q] at this; cases this
        · obtain ⟨o', ho'⟩ := hin _ hm; exact S'.mL _ ho' rfl
        · exact (List.nodup_append.mp nodup).2.2 p.1 (List.mem_map_of_mem hp) p.1 (he.symm ▸ hm) rfl
      exact fin _ _ g' ys kk h₂ tk₂ mc oL hJ hle hys hoL (S6.perm (List.perm_append_comm (l₁ := mu) (l₂ := [(L, oL), (s.heap.objs.size, lsOf ys kk)])))
  exact codeAny_compStart_list (loop _ rfl) (W.self 0 _ _ _ st1 (loop _ rfl))

/-- how a comprehension stands behind its first iterator -/
noncomputable def CompAt (w : World) (A : Around) (E : Value → Shared → Prop) (env : Env) (elt : Expr) (x : Str) (px : Pos) (iter : Expr) (ifs : List Expr) (scope : Scope) (cl : List (Str × Addr)) (cpos : Pos) (use : Option (Value → Sem Unit)) (Q : Value → Shared → Prop) (it : Value) (s : Shared) : Prop :=
  wpAny (model Pw w) A (newList []) (fun acc s₃ => wpAny (model Pw w) A (newFunctionEnv scope env.globals cl [] env.qual none .none (some env)) (fun cenv s₄ =>
      codeAny (model Pw w) A (.compStart (.ListComp elt [⟨.Name x px, iter, ifs, 0⟩] scope cpos) 0 it acc { cenv with scope := relabel scope env }) (compPost (model Pw w) A E use Q acc cenv.locals) s₄) E s₃) E s

theorem rCompE {elt iter : Expr} {x : Str} {px : Pos} {ifs : List Expr} {scope : Scope} {cl : List (Str × Addr)} {cpos : Pos} {Q : Value → Shared → Prop}
    (h : wpAny (model Pw w) A (eval iter env) (fun xv s₁ => wpAny (model Pw w) A (pyIter xv) (fun it s₂ => CompAt w A E env elt x px iter ifs scope cl cpos none Q it s₂) E s₁) E s)
    (hclos : closureFor scope env = pure cl) (hkind : scope.kind = .function := by rfl) (hnames : ∀ y ∈ scope.names, y.2 = .local → scope.names.lookup y.1 = some .local := by decide)
    (hs : ∀ x, foldedSetIterable iter env x = pure x := by intro _; rfl) : wpAny (model Pw w) A (eval (.ListComp elt [⟨.Name x px, iter, ifs, 0⟩] scope cpos) env) Q E s := by
  rw [eval_ListComp]
  exact wpAny_comprehension_free (use := none) rfl hs hclos hkind hnames h
theorem rCompA {elt iter : Expr} {x y : Str} {px py : Pos} {ifs : List Expr} {scope : Scope} {cl : List (Str × Addr)} {cpos spos : Pos} {Q : Flow → Shared → Prop}
    (h : wpAny (model Pw w) A (eval iter env) (fun xv s₁ => wpAny (model Pw w) A (pyIter xv) (fun it s₂ => CompAt w A E env elt x px iter ifs scope cl cpos (some (assign (.Name y py) env)) (fun _ s' => Q .next s') it s₂) E s₁) E s)
    (hsw : swapsWith (.ListComp elt [⟨.Name x px, iter, ifs, 0⟩] scope cpos) (some (.Name y py)) spos.line env = pure true)
    (hclos : closureFor scope env = pure cl) (hkind : scope.kind = .function := by rfl) (hnames : ∀ y ∈ scope.names, y.2 = .local → scope.names.lookup y.1 = some .local := by decide)
    (hs : ∀ x, foldedSetIterable iter env x = pure x := by intro _; rfl) :
    wpAny (model Pw w) A (exec (.Assign [.Name y py] (.ListComp elt [⟨.Name x px, iter, ifs, 0⟩] scope cpos) spos) env) Q E s := by
  rw [exec_Assign_Name_used _ _ _ _ hsw]
  refine wpAny_bind (wpAny_standAt (wpAny_bind ?_))
  show wpAny _ A (do let _ ← comprehension (.ListComp elt [⟨.Name x px, iter, ifs, 0⟩] scope cpos) scope env _ (newList []) false (eval iter env) (some (assign (.Name y py) env))) _ _ s
  exact wpAny_bind (wpAny_mono (wpAny_comprehension_free (use := some (assign (.Name y py) env)) (Q := fun _ s' => Q .next s') rfl hs hclos hkind hnames h) (fun _ s' hq => wpAny_pure (wpAny_pure hq)) fun _ _ e => e)

section
variable {elt iter : Expr} {x : Str} {px : Pos} {ifs : List Expr} {scope : Scope} {cl : List (Str × Addr)} {cpos : Pos} {J : Nat → G → List Value → Prop}
/-- what one turn of a comprehension must show -/
noncomputable abbrev CompTurn (w : World) (A : Around) (env : Env) (elt : Expr) (x : Str) (ifs : List Expr) (scope : Scope) (cl : List (Str × Addr)) (g0 fr g : G) (mu : List (Addr × Obj)) (n : Nat) (P : Nat → Value → Prop) (J : Nat → G → List Value → Prop) (s : Shared) : Prop :=
  ∀ i v g' ys C mc X h tk (KY : Value → Shared → Prop) (KN : Shared → Prop), (∀ y g'' mc' h' tk', Le g' g'' → St g0 fr g'' C mc' (mu ++ X) h' → J (i + 1) g'' (ys ++ [y]) → KY y { s with heap := h', toks := tk' }) →
      (∀ g'' mc' h' tk', Le g' g'' → St g0 fr g'' C mc' (mu ++ X) h' → J (i + 1) g'' ys → KN { s with heap := h', toks := tk' }) → i < n → P i v → J i g' ys → ys.length ≤ i → Le g g' → mc x = some v → St g0 fr g' C mc (mu ++ X) h →
      wpAny (model Pw w) A (compTestsAt ifs (compEnvC scope cl C env)) (fun ok s₃ => if ok = true then wpAny (model Pw w) A (eval elt (compEnvC scope cl C env)) KY (fun _ _ => False) s₃ else KN s₃) (fun _ _ => False) { s with heap := h, toks := tk }

theorem listIt (hh : A.handled = none) (S : St g0 fr g L m mu s.heap) (hl : LsG g l vs) {Q : Value → Shared → Prop}
    (h : ∀ I o (h' : Heap), Walks Pw w A I [I, l] [I] vs.length (fun i v => vs[i]? = some v) (fun i (h : Heap) => h.IsListIter I l i ∧ h.IsList l vs.toArray) → (∀ i (h : Heap), h.IsListIter I l i ∧ h.IsList l vs.toArray → ∀ b ∈ [I], ∃ o, h.get? b = some o) → (∀ b ∈ [I, l], b ∈ [I] ∨ ∃ o, g b = some o) →
      St g0 fr g L m (mu ++ [(I, o)]) h' → (h'.IsListIter I l 0 ∧ h'.IsList l vs.toArray) → Q (.ref I) { s with heap := h' }) : wpAny (model Pw w) A (pyIter (.ref l)) Q E s := by
  obtain ⟨c, hlc⟩ := id hl
  have hne : l ≠ s.heap.objs.size := by rintro rfl; have := S.le _ _ hlc; rw [none_size] at this; cases this
  refine wpAny_pyIter_list (hl.at S.le) ?_
  have W := Walks.list (prog := Pw) (w := w) hh s.heap.objs.size l hne vs.toArray
  simp only [List.size_toArray, List.getElem?_toArray] at W
  have k1 : ∀ b o, s.heap.get? b = some o → (s.heap.push { cls := .type "list_iterator", data := .fields #[.ref l, .int 0 0] }).get? b = some o := fun b o e => Heap.get?_push_of_some _ e
  have hI : (s.heap.push { cls := .type "list_iterator", data := .fields #[.ref l, .int 0 0] }).get? s.heap.objs.size = some { cls := .type "list_iterator", data := .fields #[.ref l, .int 0 0] } := Heap.get?_push_size _ rfl
  refine h _ _ _ W ?_ ?_ ((S.addM k1 (none_size _) hI).perm (List.perm_append_comm (l₁ := [_]) (l₂ := mu))) ⟨⟨_, hI, rfl, rfl⟩, (hl.at S.le).at fun o e => k1 _ o e⟩
  · intro i h hw b hb
    rw [List.mem_singleton.mp hb]
    obtain ⟨⟨o, ho, _⟩, _⟩ := hw
    exact ⟨o, ho⟩
  · intro b hb
    rcases List.mem_cons.mp hb with rfl | hb
    · exact .inl (.head _)
    · rw [List.mem_singleton.mp hb]; exact .inr ⟨_, hlc⟩

theorem compLE {Q : Value → Shared → Prop} (hh : A.handled = none) (S : St g0 fr g L m mu s.heap) (hl : LsG g l vs) (hz : vs.length ≤ sizeLine) (h0 : J 0 g [])
    (turn : ∀ h0 : Heap, CompTurn w A env elt x ifs scope cl g0 fr g mu vs.length (fun i v => vs[i]? = some v) J { s with heap := h0 })
    (fin : ∀ D g' ys k h tk, J vs.length g' ys → Le g g' → St g0 fr g' L m ((D, lsOf ys k) :: mu) h → Q (.ref D) { s with heap := h, toks := tk })
    (hcell : ∀ y ∈ scope.names, y.2 ≠ .cell := by decide) (hkind : scope.kind = .function := by rfl) (hx : scope.names.lookup x = some .local := by rfl) :
    wpAny (model Pw w) A (pyIter (.ref l)) (fun it s₂ => CompAt w A E env elt x px iter ifs scope cl cpos none Q it s₂) E s := by
  refine listIt hh S hl fun I o h' W hlive hfp S' st => ?_
  refine compCore (RR := fun acc C => compPost (model Pw w) A E none Q acc C) W hz hlive hfp rfl S' st h0 hcell hkind hx (turn h') ?_
  intro D C g' ys k h tk mc oL hJ hle _ hoL S''
  refine ⟨_, S''.ns, fun h'' hs'' => ?_⟩
  exact fin D g' ys k h'' tk hJ hle (S''.outerB hoL hs'')
end
end


-- part F9
section
variable {w : World} {A : Around} {E : Value → Shared → Prop} {s : Shared} {env : Env} {g0 fr g : G} {L C : Addr} {m mc : Str → Option Value} {mu mu' : List (Addr × Obj)} {v : Value} {pos : Pos} {h h' : Heap} {vs ws : List Value} {k k2 : Nat} {l b r : Addr} {oL : Obj}

theorem St.offC (S : St g0 fr g L m mu h) (gC : g C = none) (fC : fr C = none) (hLC : L ≠ C) (hm : ∀ p ∈ mu, p.1 ≠ C) (hs : Heap.SameBut C h h') : St g0 fr g L m mu h' := by
  have nb : ∀ b o, fr b = some o → b ≠ C := by rintro b o e rfl; rw [fC] at e; cases e
  have nc : ∀ b o, g b = some o → b ≠ C := by rintro b o e rfl; rw [gC] at e; cases e
  exact ⟨⟨fun b o e => (hs.2 b (nb b o e)).trans (S.gr.frm b o e), S.gr.le, fun b o e => (hs.2 b (nc b o e)).trans (S.gr.im b o e), S.gr.new⟩, S.ns.sameBut hs hLC,
    fun p hp => (hs.2 _ (hm p hp)).trans (S.mt p hp), S.gL, S.fL, S.gm, S.fm, S.mL, S.nd⟩

noncomputable def RangeG (g : G) (r : Addr) (a b c : Int) : Prop := ∃ t u v, g r = some { cls := .type "range", data := .fields #[.int a t, .int b u, .int c v] }
theorem rRange1 {n : Int} {t : Tok} {Q : Value → Shared → Prop} (S : St g0 fr g L m mu s.heap) (h : ∀ r h' g' tb, Le g g' → RangeG g' r 0 n 1 → St g0 fr g' L m mu h' → Q (.ref r) { s with heap := h', toks := tb }) :
    wpAny (model Pw w) A (call (.type "range") [.int n t]) Q E s :=
  call_range_1 (h _ _ _ _ (Le.ins (S.le.none (none_size _))) ⟨_, _, _, ins_self _ _ _⟩ (S.addG (fun _ _ e => Heap.get?_push_of_some _ e) (none_size _) (Heap.get?_push_size _ rfl)))
theorem rRange3 {a b c : Int} {t u x : Tok} {Q : Value → Shared → Prop} (hc : c ≠ 0) (hp : Builtin.divisionGoesByPylong (b - a) c = false) (S : St g0 fr g L m mu s.heap) (h : ∀ r h' g' tb, Le g g' → RangeG g' r a b c → St g0 fr g' L m mu h' → Q (.ref r) { s with heap := h', toks := tb }) :
    wpAny (model Pw w) A (call (.type "range") [.int a t, .int b u, .int c x]) Q E s :=
  call_range_3 hc (h _ _ _ _ (Le.ins (S.le.none (none_size _))) ⟨_, _, _, ins_self _ _ _⟩ (S.addG (fun _ _ e => Heap.get?_push_of_some _ e) (none_size _) (Heap.get?_push_size _ rfl))) (.inl hp)

theorem rangeIt {a b c : Int} {n : Nat} (hh : A.handled = none) (S : St g0 fr g L m mu s.heap) (hr : RangeG g r a b c) (hn : Builtin.Range.rangeSize a b c = n) (hsm : Builtin.Range.small a b c = true) {Q : Value → Shared → Prop}
    (h : ∀ I o (h' : Heap), Walks Pw w A I [I] [I] n (fun i v => ∃ t, v = .int (a + i * c) t) (fun i h => IsRangeIter h I (a + (i : Nat) * c) ((n : Int) - (i : Nat)) c) →
      (∀ i (h : Heap), IsRangeIter h I (a + (i : Nat) * c) ((n : Int) - (i : Nat)) c → ∀ b ∈ [I], ∃ o, h.get? b = some o) → (∀ b ∈ [I], b ∈ [I] ∨ ∃ o, g b = some o) →
      St g0 fr g L m (mu ++ [(I, o)]) h' → IsRangeIter h' I (a + (0 : Nat) * c) ((n : Int) - (0 : Nat)) c → Q (.ref I) { s with heap := h' }) : wpAny (model Pw w) A (pyIter (.ref r)) Q E s := by
  obtain ⟨t, u, v, e⟩ := hr
  refine wpAny_pyIter_range (S.le _ _ e) hsm ?_
  have hI : (s.heap.push { cls := .type "range_iterator", data := .fields #[rawInt a, rawInt (Builtin.Range.rangeSize a b c), rawInt c] }).get? s.heap.objs.size = some { cls := .type "range_iterator", data := .fields #[rawInt a, rawInt (Builtin.Range.rangeSize a b c), rawInt c] } := Heap.get?_push_size _ rfl
  refine h _ _ _ (Walks.range hh _ a c n) ?_ (fun b hb => .inl hb) ((S.addM (fun _ _ e => Heap.get?_push_of_some _ e) (none_size _) hI).perm (List.perm_append_comm (l₁ := [_]) (l₂ := mu))) ?_
  · intro i h hw b hb
    rw [List.mem_singleton.mp hb]
    exact ⟨_, hw⟩
  · rw [hn] at hI
    have e1 : a + ((0 : Nat) : Int) * c = a := by simp
    have e2 : (n : Int) - ((0 : Nat) : Int) = n := by simp
    rw [e1, e2, hn]; exact hI

section
variable {elt iter : Expr} {x y : Str} {px py : Pos} {ifs : List Expr} {scope : Scope} {cl : List (Str × Addr)} {cpos : Pos} {J : Nat → G → List Value → Prop}
theorem finA {Q : Flow → Shared → Prop} {n : Nat} (hy : env.kindOf y = some .local) (hke : env.scope.kind = .function)
    (fin : ∀ D g' ys k h tk, J n g' ys → Le g g' → St g0 fr g' env.locals (fun z => if z = y then some (.ref D) else m z) ((D, lsOf ys k) :: mu) h → Q .next { s with heap := h, toks := tk }) :
    ∀ D C g' ys k h tk mc oL, J n g' ys → Le g g' → ys.length ≤ n → IsNs oL m → St g0 fr g' C mc ((env.locals, oL) :: (D, lsOf ys k) :: mu) h →
      compPost (model Pw w) A E (some (assign (.Name y py) env)) (fun _ s' => Q .next s') (.ref D) C (.ok .next) { s with heap := h, toks := tk } := by
  intro D C g' ys k h tk mc oL hJ hle _ hoL S
  have S1 := S.outer hoL
  show wpAny _ _ (assign _ _ _) _ _ _
  have hLC : env.locals ≠ C := S.mL _ (.head _)
  refine wpAny_assign_Name (wpAny_storeName_local hy S1.ns (fun h₂ hn₂ hs₂ => ?_) (by rw [hke]; rfl))
  have S2 := S1.store hn₂ hs₂
  refine ⟨mc, S.ns.sameBut hs₂ (Ne.symm hLC), fun h₃ hs₃ => ?_⟩
  exact fin D g' ys k h₃ _ hJ hle (S2.offC S.gL S.fL hLC (fun p hp => S.mL p (.tail _ hp)) hs₃)
theorem finE {Q : Value → Shared → Prop} {n : Nat}
    (fin : ∀ D g' ys k h tk, J n g' ys → Le g g' → St g0 fr g' L m ((D, lsOf ys k) :: mu) h → Q (.ref D) { s with heap := h, toks := tk }) :
    ∀ D C g' ys k h tk mc oL, J n g' ys → Le g g' → ys.length ≤ n → IsNs oL m → St g0 fr g' C mc ((L, oL) :: (D, lsOf ys k) :: mu) h →
      compPost (model Pw w) A E none Q (.ref D) C (.ok .next) { s with heap := h, toks := tk } := by
  intro D C g' ys k h tk mc oL hJ hle _ hoL S
  exact ⟨_, S.ns, fun h'' hs'' => fin D g' ys k h'' tk hJ hle (S.outerB hoL hs'')⟩

theorem compLA {Q : Flow → Shared → Prop} (hh : A.handled = none) (S : St g0 fr g env.locals m mu s.heap) (hl : LsG g l vs) (hz : vs.length ≤ sizeLine) (h0 : J 0 g [])
    (turn : ∀ h0 : Heap, CompTurn w A env elt x ifs scope cl g0 fr g mu vs.length (fun i v => vs[i]? = some v) J { s with heap := h0 })
    (fin : ∀ D g' ys k h tk, J vs.length g' ys → Le g g' → St g0 fr g' env.locals (fun z => if z = y then some (.ref D) else m z) ((D, lsOf ys k) :: mu) h → Q .next { s with heap := h, toks := tk })
    (hy : env.kindOf y = some .local := by rfl) (hke : env.scope.kind = .function := by rfl)
    (hcell : ∀ y ∈ scope.names, y.2 ≠ .cell := by decide) (hkind : scope.kind = .function := by rfl) (hx : scope.names.lookup x = some .local := by rfl) :
    wpAny (model Pw w) A (pyIter (.ref l)) (fun it s₂ => CompAt w A E env elt x px iter ifs scope cl cpos (some (assign (.Name y py) env)) (fun _ s' => Q .next s') it s₂) E s := by
  refine listIt hh S hl fun I o h' W hlive hfp S' st => ?_
  exact compCore (RR := fun acc C => compPost (model Pw w) A E (some (assign (.Name y py) env)) (fun _ s' => Q .next s') acc C) W hz hlive hfp rfl S' st h0 hcell hkind hx (turn h') (finA (s := { s with heap := h' }) hy hke fun D g' ys k h tk a b c => fin D g' ys k h tk a b c)
theorem compRE {Q : Value → Shared → Prop} {a b c : Int} {n : Nat} (hh : A.handled = none) (S : St g0 fr g L m mu s.heap) (hr : RangeG g r a b c) (hn : Builtin.Range.rangeSize a b c = n) (hsm : Builtin.Range.small a b c = true) (hz : n ≤ sizeLine) (h0 : J 0 g [])
    (turn : ∀ h0 : Heap, CompTurn w A env elt x ifs scope cl g0 fr g mu n (fun i v => ∃ t, v = .int (a + i * c) t) J { s with heap := h0 })
    (fin : ∀ D g' ys k h tk, J n g' ys → Le g g' → St g0 fr g' L m ((D, lsOf ys k) :: mu) h → Q (.ref D) { s with heap := h, toks := tk })
    (hcell : ∀ y ∈ scope.names, y.2 ≠ .cell := by decide) (hkind : scope.kind = .function := by rfl) (hx : scope.names.lookup x = some .local := by rfl) :
    wpAny (model Pw w) A (pyIter (.ref r)) (fun it s₂ => CompAt w A E env elt x px iter ifs scope cl cpos none Q it s₂) E s := by
  refine rangeIt hh S hr hn hsm fun I o h' W hlive hfp S' st => ?_
  exact compCore (RR := fun acc C => compPost (model Pw w) A E none Q acc C) W hz hlive hfp rfl S' st h0 hcell hkind hx (turn h') (finE (s := { s with heap := h' }) fun D g' ys k h tk a b c => fin D g' ys k h tk a b c)
theorem compRA {Q : Flow → Shared → Prop} {a b c : Int} {n : Nat} (hh : A.handled = none) (S : St g0 fr g env.locals m mu s.heap) (hr : RangeG g r a b c) (hn : Builtin.Range.rangeSize a b c = n) (hsm : Builtin.Range.small a b c = true) (hz : n ≤ sizeLine) (h0 : J 0 g [])
    (turn : ∀ h0 : Heap, CompTurn w A env elt x ifs scope cl g0 fr g mu n (fun i v => ∃ t, v = .int (a + i * c) t) J { s with heap := h0 })
    (fin : ∀ D g' ys k h tk, J n g' ys → Le g g' → St g0 fr g' env.locals (fun z => if z = y then some (.ref D) else m z) ((D, lsOf ys k) :: mu) h → Q .next { s with heap := h, toks := tk })
    (hy : env.kindOf y = some .local := by rfl) (hke : env.scope.kind = .function := by rfl)
    (hcell : ∀ y ∈ scope.names, y.2 ≠ .cell := by decide) (hkind : scope.kind = .function := by rfl) (hx : scope.names.lookup x = some .local := by rfl) :
    wpAny (model Pw w) A (pyIter (.ref r)) (fun it s₂ => CompAt w A E env elt x px iter ifs scope cl cpos (some (assign (.Name y py) env)) (fun _ s' => Q .next s') it s₂) E s := by
  refine rangeIt hh S hr hn hsm fun I o h' W hlive hfp S' st => ?_
  exact compCore (RR := fun acc C => compPost (model Pw w) A E (some (assign (.Name y py) env)) (fun _ s' => Q .next s') acc C) W hz hlive hfp rfl S' st h0 hcell hkind hx (turn h') (finA (s := { s with heap := h' }) hy hke fun D g' ys k h tk a b c => fin D g' ys k h tk a b c)
end

/-- a for over a list of the kept part, or over a range -/
theorem forL {target : Expr} {body : List Stmt} {J : Nat → G → (Str → Option Value) → List (Addr × Obj) → Prop} {Q : Flow → Shared → Prop}
    (hh : A.handled = none) (S : St g0 fr g env.locals m mu s.heap) (hl : LsG g l vs) (h0 : J 0 g m mu)
    (turn : ∀ i v g' m' mu' X h tk (KK : Flow → Shared → Prop), (∀ g'' m'' mu'' h' tk', Le g' g'' → St g0 fr g'' env.locals m'' (mu'' ++ X) h' → J (i + 1) g'' m'' mu'' → KK .next { s with heap := h', toks := tk' }) → vs[i]? = some v → J i g' m' mu' → Le g g' → St g0 fr g' env.locals m' (mu' ++ X) h →
      wpAny (model Pw w) A (assign target env v) (fun _ s₂ => wpAny (model Pw w) A (execs body env) KK (fun _ _ => False) s₂) (fun _ _ => False) { s with heap := h, toks := tk })
    (done : ∀ g' m' mu' h tk, J vs.length g' m' mu' → Le g g' → St g0 fr g' env.locals m' mu' h → Q .next { s with heap := h, toks := tk })
    (ht : ∀ I v, letOwnedTupleGo target (.ref I) v = pure () := by intro _ _; rfl) :
    wpAny (model Pw w) A (pyIter (.ref l)) (fun it s₂ => codeAny (model Pw w) A (.forLoop target it body [] env) (fun r s' => match r with | .ok f => Q f s' | .error e => cameBackBy (model Pw w) A env E e s') s₂) E s := by
  refine listIt hh S hl fun I o h' W hlive hfp S' st => ?_
  refine forW (J := J) W hlive hfp rfl S' st h0 ?_ ?_ (ht I)
  · exact fun i v g' m' mu' X h tk KK hK hi hv hJ hle S'' => turn i v g' m' mu' X h tk KK hK hv hJ hle S''
  · intro g' m' mu' h tk hJ hle S''
    exact done g' m' mu' h tk hJ hle S''
theorem forR {target : Expr} {body : List Stmt} {J : Nat → G → (Str → Option Value) → List (Addr × Obj) → Prop} {Q : Flow → Shared → Prop} {a b c : Int} {n : Nat}
    (hh : A.handled = none) (S : St g0 fr g env.locals m mu s.heap) (hr : RangeG g r a b c) (hn : Builtin.Range.rangeSize a b c = n) (hsm : Builtin.Range.small a b c = true) (h0 : J 0 g m mu)
    (turn : ∀ i t g' m' mu' X h tk (KK : Flow → Shared → Prop), (∀ g'' m'' mu'' h' tk', Le g' g'' → St g0 fr g'' env.locals m'' (mu'' ++ X) h' → J (i + 1) g'' m'' mu'' → KK .next { s with heap := h', toks := tk' }) → i < n → J i g' m' mu' → Le g g' → St g0 fr g' env.locals m' (mu' ++ X) h →
      wpAny (model Pw w) A (assign target env (.int (a + i * c) t)) (fun _ s₂ => wpAny (model Pw w) A (execs body env) KK (fun _ _ => False) s₂) (fun _ _ => False) { s with heap := h, toks := tk })
    (done : ∀ g' m' mu' h tk, J n g' m' mu' → Le g g' → St g0 fr g' env.locals m' mu' h → Q .next { s with heap := h, toks := tk })
    (ht : ∀ I v, letOwnedTupleGo target (.ref I) v = pure () := by intro _ _; rfl) :
    wpAny (model Pw w) A (pyIter (.ref r)) (fun it s₂ => codeAny (model Pw w) A (.forLoop target it body [] env) (fun r s' => match r with | .ok f => Q f s' | .error e => cameBackBy (model Pw w) A env E e s') s₂) E s := by
  refine rangeIt hh S hr hn hsm fun I o h' W hlive hfp S' st => ?_
  refine forW (J := J) W hlive hfp rfl S' st h0 ?_ ?_ (ht I)
  · intro i v g' m' mu' X h tk KK hK hi hv hJ hle S''
    obtain ⟨t, rfl⟩ := hv
    exact turn i t g' m' mu' X h tk KK hK hi hJ hle S''
  · intro g' m' mu' h tk hJ hle S''
    exact done g' m' mu' h tk hJ hle S''
theorem rs_up {n : Int} (h0 : 0 ≤ n) : Builtin.Range.rangeSize 0 n 1 = (n.toNat : Int) := by
  unfold Builtin.Range.rangeSize
  by_cases h : 0 < n
  · rw [if_pos (by decide), if_pos h]; simp; exact om_17 h
  · rw [if_pos (by decide), if_neg h]; exact om_18 h
theorem sm_up {n : Int} (h0 : 0 ≤ n) (h1 : n < 2 ^ 62) : Builtin.Range.small 0 n 1 = true := by
  unfold Builtin.Range.small Builtin.Range.rangeFitsLong
  rw [rs_up h0]
  simp
  exact om_19 h0 h1
end


-- part F9b
theorem kpAll (w : World) : ∀ f ∈ ([47, 52, 57, 64, 71, 78, 85, 90, 96, 103, 110, 117, 122, 127, 134, 141, 148, 153, 36] : List Addr), keepIn (hd.heap_39 w.params) (.ref f) = true := List.forall_mem_cons.mpr ⟨kp47 w, List.forall_mem_cons.mpr ⟨kp52 w, List.forall_mem_cons.mpr ⟨kp57 w, List.forall_mem_cons.mpr ⟨kp64 w, List.forall_mem_cons.mpr ⟨kp71 w, List.forall_mem_cons.mpr ⟨kp78 w, List.forall_mem_cons.mpr ⟨kp85 w, List.forall_mem_cons.mpr ⟨kp90 w, List.forall_mem_cons.mpr ⟨kp96 w, List.forall_mem_cons.mpr ⟨kp103 w, List.forall_mem_cons.mpr ⟨kp110 w, List.forall_mem_cons.mpr ⟨kp117 w, List.forall_mem_cons.mpr ⟨kp122 w, List.forall_mem_cons.mpr ⟨kp127 w, List.forall_mem_cons.mpr ⟨kp134 w, List.forall_mem_cons.mpr ⟨kp141 w, List.forall_mem_cons.mpr ⟨kp148 w, List.forall_mem_cons.mpr ⟨kp153 w, List.forall_mem_cons.mpr ⟨kp36 w, (fun _ h => nomatch h)⟩⟩⟩⟩⟩⟩⟩⟩⟩⟩⟩⟩⟩⟩⟩⟩⟩⟩⟩
noncomputable def gnL : List (Str × Addr) := [(Str.ofString "all_nodes", 47), (Str.ofString "numbers_told", 52), (Str.ofString "parent_numbers", 57), (Str.ofString "base_under", 64), (Str.ofString "is_better", 71), (Str.ofString "subject_places", 78), (Str.ofString "joined_threads", 85), (Str.ofString "gathered", 90), (Str.ofString "_law_stock", 96), (Str.ofString "_law_part", 103), (Str.ofString "_law_letter", 110), (Str.ofString "_law_tree", 117), (Str.ofString "_law_node", 122), (Str.ofString "_law_told", 127), (Str.ofString "_law_parents", 134), (Str.ofString "_law_joined", 141), (Str.ofString "_law_base", 148), (Str.ofString "_law_gathered", 153), (Str.ofString "Node", 36), (Str.ofString "_law_bases", 91)]
theorem gnL_mem (w : World) : ∀ p ∈ gnL, nsIn (hd.heap_39 w.params) mainGlobals p.1 = some (some (.ref p.2)) := List.forall_mem_cons.mpr ⟨gn_all_nodes w, List.forall_mem_cons.mpr ⟨gn_numbers_told w, List.forall_mem_cons.mpr ⟨gn_parent_numbers w, List.forall_mem_cons.mpr ⟨gn_base_under w, List.forall_mem_cons.mpr ⟨gn_is_better w, List.forall_mem_cons.mpr ⟨gn_subject_places w, List.forall_mem_cons.mpr ⟨gn_joined_threads w, List.forall_mem_cons.mpr ⟨gn_gathered w, List.forall_mem_cons.mpr ⟨gn_law_stock w, List.forall_mem_cons.mpr ⟨gn_law_part w, List.forall_mem_cons.mpr ⟨gn_law_letter w, List.forall_mem_cons.mpr ⟨gn_law_tree w, List.forall_mem_cons.mpr ⟨gn_law_node w, List.forall_mem_cons.mpr ⟨gn_law_told w, List.forall_mem_cons.mpr ⟨gn_law_parents w, List.forall_mem_cons.mpr ⟨gn_law_joined w, List.forall_mem_cons.mpr ⟨gn_law_base w, List.forall_mem_cons.mpr ⟨gn_law_gathered w, List.forall_mem_cons.mpr ⟨gn_Node w, List.forall_mem_cons.mpr ⟨gn_law_bases w, (fun _ h => nomatch h)⟩⟩⟩⟩⟩⟩⟩⟩⟩⟩⟩⟩⟩⟩⟩⟩⟩⟩⟩⟩
theorem look_mem {β : Type} {l : List (Str × β)} {x : Str} {v : β} (h : l.lookup x = some v) : (x, v) ∈ l := by
  induction l with
  | nil => cases h
  | cons p r ih =>
    obtain ⟨a, b⟩ := p
    rw [List.lookup_cons] at h
    cases e : x == a with
    | true => rw [e] at h; cases h; rw [eq_of_beq e]; exact .head _
    | false => rw [e] at h; exact .tail _ (ih h)
theorem gnAll (w : World) {x : Str} {a : Addr} (h : gnL.lookup x = some a) : nsIn (hd.heap_39 w.params) mainGlobals x = some (some (.ref a)) := gnL_mem w _ (look_mem h)
noncomputable def bnL : List (Str × Value) := [(Str.ofString "len", .builtin "len"), (Str.ofString "range", .type "range"), (Str.ofString "list", .type "list"), (Str.ofString "dict", .type "dict"), (Str.ofString "tuple", .type "tuple"), (Str.ofString "sorted", .builtin "sorted"), (Str.ofString "enumerate", .type "enumerate"), (Str.ofString "abs", .builtin "abs"), (Str.ofString "int", .type "int"), (Str.ofString "sum", .builtin "sum")]
theorem bnL_mem (w : World) : ∀ p ∈ bnL, nsIn (hd.heap_39 w.params) mainGlobals p.1 = some none := List.forall_mem_cons.mpr ⟨bn_len w, List.forall_mem_cons.mpr ⟨bn_range w, List.forall_mem_cons.mpr ⟨bn_list w, List.forall_mem_cons.mpr ⟨bn_dict w, List.forall_mem_cons.mpr ⟨bn_tuple w, List.forall_mem_cons.mpr ⟨bn_sorted w, List.forall_mem_cons.mpr ⟨bn_enumerate w, List.forall_mem_cons.mpr ⟨bn_abs w, List.forall_mem_cons.mpr ⟨bn_int w, List.forall_mem_cons.mpr ⟨bn_sum w, (fun _ h => nomatch h)⟩⟩⟩⟩⟩⟩⟩⟩⟩⟩
theorem btL_mem : ∀ p ∈ bnL, bootBuiltins p.1 = some p.2 := List.forall_mem_cons.mpr ⟨bt_len, List.forall_mem_cons.mpr ⟨bt_range, List.forall_mem_cons.mpr ⟨bt_list, List.forall_mem_cons.mpr ⟨bt_dict, List.forall_mem_cons.mpr ⟨bt_tuple, List.forall_mem_cons.mpr ⟨bt_sorted, List.forall_mem_cons.mpr ⟨bt_enumerate, List.forall_mem_cons.mpr ⟨bt_abs, List.forall_mem_cons.mpr ⟨bt_int, List.forall_mem_cons.mpr ⟨bt_sum, (fun _ h => nomatch h)⟩⟩⟩⟩⟩⟩⟩⟩⟩⟩
theorem bnAll (w : World) {x : Str} {v : Value} (h : bnL.lookup x = some v) : nsIn (hd.heap_39 w.params) mainGlobals x = some none := bnL_mem w _ (look_mem h)
theorem btAll {x : Str} {v : Value} (h : bnL.lookup x = some v) : bootBuiltins x = some v := btL_mem _ (look_mem h)
example (w : World) : ∃ v, nsIn (hd.heap_39 w.params) mainGlobals (Str.ofString "gathered") = some (some v) := ⟨_, gnAll w rfl⟩
example (w : World) : ∃ v, bootBuiltins (Str.ofString "sum") = some v := ⟨_, btAll rfl⟩
example (w : World) : keepIn (hd.heap_39 w.params) (.ref 90) = true := kpAll w _ (by decide)


-- part S1
theorem base_under_spec {w : World} {A : Around} {E : Value → Shared → Prop} {s : Shared} {Q : Value → Shared → Prop} {g : G} {v : Value} {d : Addr} {t : T} {tab : Tab} {b : Str} {r : Bool} (R : Room A 10 40) (B : Bs w g) (hg : Le g s.heap.get?)
    (hv : NT w g v t) (ht : TabG w g d tab) (hk : tab.lookup t.key = some (b, r)) (hne : t.n > 0 ∨ t.ks ≠ [])
    (hQ : ∀ tk h' tb, Grow g s.heap.get? g h' → Q (.str b tk) { s with heap := h', toks := tb }) : wpAny (model Pw w) A (call (.ref 64) [v, .ref d]) Q E s := by
  refine enterM (mu := []) (fr := s.heap.get?) (binds := [(Str.ofString "node", v), (Str.ofString "table", .ref d)]) R B hg (Le.refl _) (fun _ h => nomatch h) List.nodup_nil (by k_is) (by k_is) (BindsTo.of_eq rfl) (locs rfl) (fun L h₁ S => ?_)
  cases hv with
  | @mk a l n vs ks hN hL hK =>
  refine wpAny_execs_cons ?_; refine wpAny_Return_some ?_; refine Subscript_ ?_; refine Subscript_ ?_; refine ldL (by assumption) (by first | rfl | assumption) ?_
  refine IfExp_ ?_; refine wpAny_isTrue_Compare1 ?_; refine Attribute_Name_ ?_; refine ldL (by assumption) (by first | rfl | assumption) ?_; try dsimp only
  refine rNumber B S hN fun tn tb => ?_
  refine rInt fun _ _ => ?_; refine gt_int ?_; refine wpAny_truthy_bool ?_; try dsimp only
  by_cases hn : 0 < n
  · rw [if_pos (by simpa using hn)]
    refine Attribute_Name_ ?_; refine ldL (by assumption) (by first | rfl | assumption) ?_; try dsimp only
    refine rNumber B S hN fun tn tb => ?_
    refine rTab S ht (by simp only [T.key, gt_iff_lt, if_pos hn] at hk; exact hk) (fun v tb he => ?_)
    obtain ⟨a', x0, x1, x2, x3, t', rfl, hT⟩ := he
    refine rInt fun _ _ => ?_; try dsimp only
    refine rItemT (hT.at S.le) (by decide) (by decide) rfl rfl ?_
    exact hQ _ _ _ S.gr
  · rw [if_neg (by simpa using hn)]
    refine Attribute_any_ ?_; refine Subscript_ ?_; refine Attribute_Name_ ?_; refine ldL (by assumption) (by first | rfl | assumption) ?_; try dsimp only
    refine rKids B S hN fun tb => ?_
    refine rInt fun _ _ => ?_; try dsimp only
    cases hK with
    | nil => exact absurd rfl (hne.resolve_left hn)
    | @cons v0 t0 vs ts h0 _ =>
    refine rItemL (hL.at S.le) (by decide) (by decide) rfl ?_
    cases h0 with
    | @mk a0 l0 n0 vs0 ks0 hN0 hL0 hK0 =>
    refine rNumber B S hN0 fun tn tb => ?_
    refine rTab S ht (by simp only [T.key, gt_iff_lt, if_neg hn] at hk; exact hk) (fun v tb he => ?_)
    obtain ⟨a', x0, x1, x2, x3, t', rfl, hT⟩ := he
    refine rInt fun _ _ => ?_; try dsimp only
    refine rItemT (hT.at S.le) (by decide) (by decide) rfl rfl ?_
    exact hQ _ _ _ S.gr

theorem is_better_spec {w : World} {A : Around} {E : Value → Shared → Prop} {s : Shared} {Q : Value → Shared → Prop} {g : G} {a1 l1 a2 l2 : Addr} {n hn : Int} {d : Addr} {tab : Tab} {b b' : Str} {rn rh : Bool} (R : Room A 10 40) (B : Bs w g) (hg : Le g s.heap.get?)
    (h1 : NodeAt w g a1 n l1) (h2 : NodeAt w g a2 hn l2) (ht : TabG w g d tab) (hk1 : n ≠ 0 → tab.lookup n = some (b, rn)) (hk2 : hn ≠ 0 → tab.lookup hn = some (b', rh))
    (hQ : ∀ h' tb, Grow g s.heap.get? g h' → Q (.bool (better n hn rn rh)) { s with heap := h', toks := tb }) : wpAny (model Pw w) A (call (.ref 71) [.ref a1, .ref a2, .ref d]) Q E s := by
  refine enterM (mu := []) (fr := s.heap.get?) (binds := [(Str.ofString "node", .ref a1), (Str.ofString "held", .ref a2), (Str.ofString "table", .ref d)]) R B hg (Le.refl _) (fun _ h => nomatch h) List.nodup_nil (by k_is) (by k_is) (BindsTo.of_eq rfl) (locs rfl) (fun L h₁ S => ?_)
  refine wpAny_execs_cons ?_; refine wpAny_If ?_; refine wpAny_isTrue_Compare1 ?_; refine Attribute_Name_ ?_
  refine ldL (by assumption) (by first | rfl | assumption) ?_; try dsimp only
  refine rNumber B S h2 fun tn tb => ?_
  refine rInt fun _ _ => ?_; refine eq_int ?_; refine wpAny_truthy_bool ?_; try dsimp only
  by_cases e2 : hn = 0
  · rw [if_pos (by simpa using e2)]
    refine wpAny_execs_cons ?_; refine wpAny_Return_some ?_; refine wpAny_Constant_bool ?_; try dsimp only
    have e : better n hn rn rh = false := by simp [better, e2]
    rw [e] at hQ
    exact hQ _ _ S.gr
  · rw [if_neg (by simpa using e2)]
    refine wpAny_execs_nil ?_; refine wpAny_execs_cons ?_; refine wpAny_Return_some ?_; try dsimp only
    refine wpAny_Or2 ?_
    refine wpAny_Compare1 ?_; refine Attribute_Name_ ?_; refine ldL (by assumption) (by first | rfl | assumption) ?_; try dsimp only
    refine rNumber B S h1 fun tn tb => ?_
    refine rInt fun _ _ => ?_; refine eq_int ?_; refine wpAny_truthy_bool ?_; try dsimp only
    by_cases e1 : n = 0
    · rw [if_pos (by simpa using e1)]
      have e : better n hn rn rh = true := by simp [better, e1, e2]
      have e' : (n == 0) = true := by simp [e1]
      rw [e] at hQ
      rw [e']
      exact hQ _ _ S.gr
    · rw [if_neg (by simpa using e1)]
      refine wpAny_And2 ?_
      refine Subscript_ ?_; refine Subscript_ ?_; refine ldL (by assumption) (by first | rfl | assumption) ?_; refine Attribute_Name_ ?_
      refine ldL (by assumption) (by first | rfl | assumption) ?_; try dsimp only
      refine rNumber B S h2 fun tn tb => ?_
      refine rTab S ht (hk2 e2) (fun v tb he => ?_)
      obtain ⟨a', x0, x1, x2, x3, t', rfl, hT⟩ := he
      refine rInt fun _ _ => ?_; try dsimp only
      refine rItemT (hT.at S.le) (by decide) (by decide) rfl rfl ?_
      refine wpAny_truthy_bool ?_; try dsimp only
      cases rh with
      | false =>
        have e : better n hn rn false = false := by simp [better, e1]
        rw [e] at hQ
        exact hQ _ _ S.gr
      | true =>
        rw [if_pos rfl]
        refine UnaryOp_ ?_; refine Subscript_ ?_; refine Subscript_ ?_; refine ldL (by assumption) (by first | rfl | assumption) ?_; refine Attribute_Name_ ?_
        refine ldL (by assumption) (by first | rfl | assumption) ?_; try dsimp only
        refine rNumber B S h1 fun tn tb => ?_
        refine rTab S ht (hk1 e1) (fun v tb he => ?_)
        obtain ⟨a', x0, x1, x2, x3, t', rfl, hT⟩ := he
        refine rInt fun _ _ => ?_; try dsimp only
        refine rItemT (hT.at S.le) (by decide) (by decide) rfl rfl ?_
        refine not_value ?_
        refine wpAny_truthy_bool ?_; try dsimp only
        have e : better n hn rn true = !rn := by simp [better, e1, e2]
        rw [e] at hQ
        exact hQ _ _ S.gr


-- part S2
theorem Node_spec {w : World} {A : Around} {E : Value → Shared → Prop} {s : Shared} {Q : Value → Shared → Prop} {g : G} {n : Int} {tn : Tok} {l : Addr} (R : Room A 10 40) (B : Bs w g) (hg : Le g s.heap.get?)
    (hQ : ∀ a g' h' tb, Grow g s.heap.get? g' h' → NodeAt w g' a n l → Q (.ref a) { s with heap := h', toks := tb }) : wpAny (model Pw w) A (call (.ref 36) [.int n tn, .ref l]) Q E s := by
  refine wpAny_call ?_
  obtain ⟨h, gn, dr, tk, os⟩ := s
  refine make_core (makes_of (B.kin hg) (by k_is)) (looks_findIn (B.kin hg) (r := some (.ref 28)) (by k_is)) (fun self => bind_fn (B.kin hg) self (by k_is)) (.inl rfl) ?_
  have hx : ((h.push emptyDict).push (instObj 36 h.objs.size)).get? (h.objs.size + 1) = some (instObj 36 h.objs.size) := by
    have := Heap.get?_push_size (h.push emptyDict) (o := instObj 36 h.objs.size) rfl
    rwa [Heap.size_push] at this
  have hd' : ((h.push emptyDict).push (instObj 36 h.objs.size)).get? h.objs.size = some emptyDict := Heap.get?_push_of_some _ (Heap.get?_push_size _ rfl)
  have old : ∀ b o, h.get? b = some o → ((h.push emptyDict).push (instObj 36 h.objs.size)).get? b = some o := fun b o e => Heap.get?_push_of_some _ (Heap.get?_push_of_some _ e)
  have nd : h.get? h.objs.size = none := none_size h
  have nx : h.get? (h.objs.size + 1) = none := none_ge (Nat.le_succ _)
  have gx : g (h.objs.size + 1) = none := hg.none nx
  have gd : g h.objs.size = none := hg.none nd
  have ne : h.objs.size ≠ h.objs.size + 1 := by exact om_20
  refine enterC (mu := [(h.objs.size, emptyDict)]) (fr := h.get?) (g := ins g (h.objs.size + 1) (instObj 36 h.objs.size)) (d := 5) (u := 20) (binds := [(Str.ofString "self", .ref (h.objs.size + 1)), (Str.ofString "number", .int n tn), (Str.ofString "kids", .ref l)]) ?_ (B.mono (Le.ins gx)) ?_ old ?_ ?_ (by k_is) (by k_is) (BindsTo.of_eq rfl) (locs rfl) (fun L h₁ S => ?_)
  · exact ⟨R.hd, by have := R.dp; show A.depth + 1 + 5 < _; exact om_21 this, by have := R.un; show A.units + 1 + 20 < _; exact om_22 this⟩
  · intro b o e
    by_cases hb : b = h.objs.size + 1
    · subst hb; rw [ins_self] at e; cases e; exact hx
    · rw [ins_ne hb] at e; exact old b o (hg b o e)
  · intro p hp
    rw [List.mem_singleton.mp hp]
    exact ⟨hd', by rw [ins_ne ne]; exact gd, nd⟩
  · simp
  refine wpAny_execs_cons ?_; try dsimp only
  refine plainObj_wpAny_Assign_Attribute ?_
  refine ldL (by assumption) (by first | rfl | assumption) ?_; refine ldL (by assumption) (by first | rfl | assumption) ?_; try dsimp only
  refine rSet (B.mono (Le.ins gx)) S (ins_self _ _ _) .here (by k_is) (by k_is) (by k_is) (by k_is) (by k_get) (by k_put) (Nat.le_of_ble_eq_true rfl) fun h' S => ?_
  refine wpAny_execs_cons ?_; try dsimp only
  refine plainObj_wpAny_Assign_Attribute ?_
  refine ldL (by assumption) (by first | rfl | assumption) ?_; refine ldL (by assumption) (by first | rfl | assumption) ?_; try dsimp only
  refine rSet (B.mono (Le.ins gx)) S (ins_self _ _ _) .here (by k_is) (by k_is) (by k_is) (by k_is) (by k_get) (by k_put) (Nat.le_of_ble_eq_true rfl) fun h' S => ?_
  refine wpAny_execs_nil ?_; try dsimp only
  refine ⟨rfl, ?_⟩
  have S' := S.freeze
  refine hQ _ _ _ _ ⟨S'.gr.frm, (Le.ins gx).trans S'.gr.le, S'.gr.im, fun b o e => ?_⟩ ⟨_, _, _, _, _, ?_, ins_self _ _ _⟩
  · rcases S'.gr.new b o e with q | q
    · by_cases hb : b = h.objs.size + 1
      · subst hb; exact .inr nx
      · rw [ins_ne hb] at q; exact .inl q
    · exact .inr q
  · exact (ins_ne (Ne.symm ne)).trans (ins_self _ _ _)


-- part S3
theorem joined_spec {w : World} {A : Around} {E : Value → Shared → Prop} {s : Shared} {Q : Value → Shared → Prop} {g : G} {v1 v2 : Value} {t1 t2 : T} {d : Addr} {tab : Tab} (R : Room A 20 80) (B : Bs w g) (hg : Le g s.heap.get?)
    (h1 : NT w g v1 t1) (h2 : NT w g v2 t2) (ht : TabG w g d tab) (hk : t1.n ≠ 0 → (∃ b1 r1, tab.lookup t1.n = some (b1, r1)) ∧ ∃ b2 r2, tab.lookup t2.n = some (b2, r2)) (hz : t1.ks.length + t2.ks.length + 1 ≤ sizeLine)
    (hQ : ∀ r g' h' tb, Grow g s.heap.get? g' h' → NT w g' r (joinT tab t1 t2) → Q r { s with heap := h', toks := tb }) : wpAny (model Pw w) A (call (.ref 85) [v1, v2, .ref d]) Q E s := by
  refine enterM (mu := []) (fr := s.heap.get?) (binds := [(Str.ofString "held", v1), (Str.ofString "node", v2), (Str.ofString "table", .ref d)]) R B hg (Le.refl _) (fun _ h => nomatch h) List.nodup_nil (by k_is) (by k_is) (BindsTo.of_eq rfl) (locs rfl) (fun L h₁ S => ?_)
  cases h1 with
  | @mk a1 l1 n1 vs1 ks1 hN1 hL1 hK1 =>
  cases h2 with
  | @mk a2 l2 n2 vs2 ks2 hN2 hL2 hK2 =>
  have hz' : ks1.length + ks2.length + 1 ≤ sizeLine := hz
  have z1 := hK1.len
  have z2 := hK2.len
  obtain ⟨k1, hl1⟩ := id hL1
  obtain ⟨k2, hl2⟩ := id hL2
  refine wpAny_execs_cons ?_; refine wpAny_If ?_; refine wpAny_isTrue_Compare1 ?_; refine Attribute_Name_ ?_
  refine ldL (by assumption) (by first | rfl | assumption) ?_; try dsimp only
  refine rNumber B S hN1 fun tn tb => ?_
  refine rInt fun _ _ => ?_; refine eq_int ?_; refine wpAny_truthy_bool ?_; try dsimp only
  by_cases e1 : n1 = 0
  · rw [if_pos (by simpa using e1)]
    refine wpAny_execs_cons ?_; refine wpAny_Return_some ?_; refine wpAny_Call_NameR ?_; refine ldG (by assumption) (by assumption) (gnAll _ rfl) ?_
    refine callWith_K (St.kin (by assumption) (by assumption)) (kpAll _ _ (by decide)) ?_; refine wpAny_items_cons ?_; refine rInt fun _ _ => ?_
    refine wpAny_items_cons ?_; refine wpAny_BinOp ?_; refine Attribute_Name_ ?_; refine ldL (by assumption) (by first | rfl | assumption) ?_; try dsimp only
    refine rKids B S hN1 fun tb => ?_
    refine IfExp_ ?_; refine wpAny_isTrue_Compare1 ?_; refine Attribute_Name_ ?_; refine ldL (by assumption) (by first | rfl | assumption) ?_; try dsimp only
    refine rNumber B S hN2 fun tn tb => ?_
    refine rInt fun _ _ => ?_; refine eq_int ?_; refine wpAny_truthy_bool ?_; try dsimp only
    by_cases e2 : n2 = 0
    · rw [if_pos (by simpa using e2)]
      refine Attribute_Name_ ?_; refine ldL (by assumption) (by first | rfl | assumption) ?_; try dsimp only
      refine rKids B S hN2 fun tb => ?_
      refine rAddL S (S.le _ _ hl1) (S.le _ _ hl2) (by exact om_23 hz' z1 z2) fun a h' S => ?_
      obtain ⟨g1, le1, hl3, S⟩ := S.frz
      refine wpAny_items_nil ?_; refine keepB (by assumption) (by assumption) ?_; try dsimp only
      refine Node_spec (R.deeper (by exact om_24) (by exact om_25)) (B.mono S.le0) S.le fun x g' h' tb X hN => ?_
      have S := S.call X
      refine hQ _ _ _ _ S.gr ?_
      rw [joinT, if_pos (show (T.mk n1 ks1).n = 0 from e1), if_pos (show (T.mk n2 ks2).n = 0 from e2)]
      exact .mk hN (hl3.mono X.le) ((hK1.mono S.le0).app (hK2.mono S.le0))
    · rw [if_neg (by simpa using e2)]
      refine List_ ?_; refine wpAny_items_cons ?_; refine ldL (by assumption) (by first | rfl | assumption) ?_; refine wpAny_items_nil ?_; try dsimp only
      refine rNewList S (Nat.le_of_ble_eq_true rfl) fun a h' S => ?_
      refine rAddL S (S.le _ _ hl1) (S.mt _ (.head _)) (by simp; exact om_26 hz' z1) fun a h' S => ?_
      obtain ⟨g1, le1, hl3, S⟩ := S.frz
      refine wpAny_items_nil ?_; refine keepB (by assumption) (by assumption) ?_; try dsimp only
      refine Node_spec (R.deeper (by exact om_24) (by exact om_25)) (B.mono S.le0) S.le fun x g' h' tb X hN => ?_
      have S := S.call X
      refine hQ _ _ _ _ S.gr ?_
      rw [joinT, if_pos (show (T.mk n1 ks1).n = 0 from e1), if_neg (show ¬ (T.mk n2 ks2).n = 0 from e2)]
      exact .mk hN (hl3.mono X.le) ((hK1.mono S.le0).app (.cons (.mk (hN2.mono S.le0) (hL2.mono S.le0) (hK2.mono S.le0)) .nil))
  · rw [if_neg (by simpa using e1)]
    obtain ⟨⟨b1, r1, q1⟩, b2, r2, q2⟩ := hk e1
    refine wpAny_execs_nil ?_; refine wpAny_execs_cons ?_; refine wpAny_If ?_; refine wpAny_isTrue_BoolOp ?_; refine wpAny_allTrue_And_cons ?_
    refine wpAny_isTrue_value ?_; refine Subscript_ ?_; refine Subscript_ ?_; refine ldL (by assumption) (by first | rfl | assumption) ?_; refine Attribute_Name_ ?_
    refine ldL (by assumption) (by first | rfl | assumption) ?_; try dsimp only
    refine rNumber B S hN2 fun tn tb => ?_
    refine rTab S ht q2 (fun v tb he => ?_)
    obtain ⟨a', x0, x1, x2, x3, t', rfl, hT⟩ := he
    refine rInt fun _ _ => ?_; try dsimp only
    refine rItemT (hT.at S.le) (by decide) (by decide) rfl rfl ?_
    refine wpAny_truthy_bool ?_; try dsimp only
    cases hr2 : r2 with
    | false =>
      simp only [Bool.false_eq_true, if_false]
      refine wpAny_execs_nil ?_; refine wpAny_execs_cons ?_; refine wpAny_Return_some ?_; refine wpAny_Call_NameR ?_
      refine ldG (by assumption) (by assumption) (gnAll _ rfl) ?_; refine callWith_K (St.kin (by assumption) (by assumption)) (kpAll _ _ (by decide)) ?_
      refine wpAny_items_cons ?_; refine rInt fun _ _ => ?_; refine wpAny_items_cons ?_; refine List_ ?_; refine wpAny_items_cons ?_
      refine ldL (by assumption) (by first | rfl | assumption) ?_; refine wpAny_items_cons ?_; refine ldL (by assumption) (by first | rfl | assumption) ?_
      refine wpAny_items_nil ?_; try dsimp only
      refine rNewList S (Nat.le_of_ble_eq_true rfl) fun a h' S => ?_
      obtain ⟨g1, le1, hl3, S⟩ := S.frz
      refine wpAny_items_nil ?_; refine keepB (by assumption) (by assumption) ?_; try dsimp only
      refine Node_spec (R.deeper (by exact om_24) (by exact om_25)) (B.mono S.le0) S.le fun x g' h' tb X hN => ?_
      have S := S.call X
      refine hQ _ _ _ _ S.gr ?_
      rw [joinT, if_neg (show ¬ (T.mk n1 ks1).n = 0 from e1), re_of q2, hr2]
      exact .mk hN (hl3.mono X.le) (.cons (.mk (hN1.mono S.le0) (hL1.mono S.le0) (hK1.mono S.le0)) (.cons (.mk (hN2.mono S.le0) (hL2.mono S.le0) (hK2.mono S.le0)) .nil))
    | true =>
      simp only [if_true]
      refine wpAny_allTrue_And_cons ?_; refine wpAny_isTrue_Not ?_; refine wpAny_isTrue_value ?_; refine Subscript_ ?_; refine Subscript_ ?_
      refine ldL (by assumption) (by first | rfl | assumption) ?_; refine Attribute_Name_ ?_; refine ldL (by assumption) (by first | rfl | assumption) ?_
      try dsimp only
      refine rNumber B S hN1 fun tn tb => ?_
      refine rTab S ht q1 (fun v tb he => ?_)
      obtain ⟨a', x0, x1, x2, x3, t', rfl, hT⟩ := he
      refine rInt fun _ _ => ?_; try dsimp only
      refine rItemT (hT.at S.le) (by decide) (by decide) rfl rfl ?_
      refine wpAny_truthy_bool ?_; try dsimp only
      cases hr1 : r1 with
      | true =>
        simp only [Bool.not_true, Bool.false_eq_true, if_false]
        refine wpAny_execs_nil ?_; refine wpAny_execs_cons ?_; refine wpAny_Return_some ?_; refine wpAny_Call_NameR ?_
        refine ldG (by assumption) (by assumption) (gnAll _ rfl) ?_; refine callWith_K (St.kin (by assumption) (by assumption)) (kpAll _ _ (by decide)) ?_
        refine wpAny_items_cons ?_; refine rInt fun _ _ => ?_; refine wpAny_items_cons ?_; refine List_ ?_; refine wpAny_items_cons ?_
        refine ldL (by assumption) (by first | rfl | assumption) ?_; refine wpAny_items_cons ?_; refine ldL (by assumption) (by first | rfl | assumption) ?_
        refine wpAny_items_nil ?_; try dsimp only
        refine rNewList S (Nat.le_of_ble_eq_true rfl) fun a h' S => ?_
        obtain ⟨g1, le1, hl3, S⟩ := S.frz
        refine wpAny_items_nil ?_; refine keepB (by assumption) (by assumption) ?_; try dsimp only
        refine Node_spec (R.deeper (by exact om_24) (by exact om_25)) (B.mono S.le0) S.le fun x g' h' tb X hN => ?_
        have S := S.call X
        refine hQ _ _ _ _ S.gr ?_
        rw [joinT, if_neg (show ¬ (T.mk n1 ks1).n = 0 from e1), re_of q2, re_of q1, hr2, hr1]
        exact .mk hN (hl3.mono X.le) (.cons (.mk (hN1.mono S.le0) (hL1.mono S.le0) (hK1.mono S.le0)) (.cons (.mk (hN2.mono S.le0) (hL2.mono S.le0) (hK2.mono S.le0)) .nil))
      | false =>
        simp only [Bool.not_false, if_true]
        refine wpAny_allTrue_And_nil ?_; refine iteT ?_; refine wpAny_execs_cons ?_; refine wpAny_Return_some ?_; refine wpAny_Call_NameR ?_
        refine ldG (by assumption) (by assumption) (gnAll _ rfl) ?_; refine callWith_K (St.kin (by assumption) (by assumption)) (kpAll _ _ (by decide)) ?_
        refine wpAny_items_cons ?_; refine Attribute_Name_ ?_; refine ldL (by assumption) (by first | rfl | assumption) ?_; try dsimp only
        refine rNumber B S hN1 fun tn tb => ?_
        refine wpAny_items_cons ?_; refine wpAny_BinOp ?_; refine Attribute_Name_ ?_; refine ldL (by assumption) (by first | rfl | assumption) ?_; try dsimp only
        refine rKids B S hN1 fun tb => ?_
        refine List_ ?_; refine wpAny_items_cons ?_; refine ldL (by assumption) (by first | rfl | assumption) ?_; refine wpAny_items_nil ?_; try dsimp only
        refine rNewList S (Nat.le_of_ble_eq_true rfl) fun a h' S => ?_
        refine rAddL S (S.le _ _ hl1) (S.mt _ (.head _)) (by simp; exact om_26 hz' z1) fun a h' S => ?_
        obtain ⟨g1, le1, hl3, S⟩ := S.frz
        refine wpAny_items_nil ?_; refine keepB (by assumption) (by assumption) ?_; try dsimp only
        refine Node_spec (R.deeper (by exact om_24) (by exact om_25)) (B.mono S.le0) S.le fun x g' h' tb X hN => ?_
        have S := S.call X
        refine hQ _ _ _ _ S.gr ?_
        rw [joinT, if_neg (show ¬ (T.mk n1 ks1).n = 0 from e1), re_of q2, re_of q1, hr2, hr1]
        exact .mk hN (hl3.mono X.le) ((hK1.mono S.le0).app (.cons (.mk (hN2.mono S.le0) (hL2.mono S.le0) (hK2.mono S.le0)) .nil))


-- part S4
theorem law_joined_spec {w : World} {A : Around} {E : Value → Shared → Prop} {s : Shared} {Q : Value → Shared → Prop} {g : G} {v1 v2 : Value} {t1 t2 : T} {d : Addr} {tab : Tab} (R : Room A 20 80) (B : Bs w g) (hg : Le g s.heap.get?)
    (h1 : LT g v1 t1) (h2 : LT g v2 t2) (ht : TabG w g d tab) (hk : t1.n ≠ 0 → t2.n > 0 ∧ (∃ b1 r1, tab.lookup t1.n = some (b1, r1)) ∧ ∃ b2 r2, tab.lookup t2.n = some (b2, r2)) (hz : t1.ks.length + t2.ks.length + 1 ≤ sizeLine)
    (hQ : ∀ r g' h' tb, Grow g s.heap.get? g' h' → LT g' r (joinT tab t1 t2) → Q r { s with heap := h', toks := tb }) : wpAny (model Pw w) A (call (.ref 141) [v1, v2, .ref d]) Q E s := by
  refine enterM (mu := []) (fr := s.heap.get?) (binds := [(Str.ofString "held", v1), (Str.ofString "here", v2), (Str.ofString "table", .ref d)]) R B hg (Le.refl _) (fun _ h => nomatch h) List.nodup_nil (by k_is) (by k_is) (BindsTo.of_eq rfl) (locs rfl) (fun L h₁ S => ?_)
  cases h1 with
  | @mk a1 l1 n1 tn1 vs1 ks1 hN1 hL1 hK1 =>
  cases h2 with
  | @mk a2 l2 n2 tn2 vs2 ks2 hN2 hL2 hK2 =>
  have hz' : ks1.length + ks2.length + 1 ≤ sizeLine := hz
  have z1 := hK1.len
  have z2 := hK2.len
  obtain ⟨k1, hl1⟩ := id hL1
  obtain ⟨k2, hl2⟩ := id hL2
  refine wpAny_execs_cons ?_; refine wpAny_If ?_; refine wpAny_isTrue_Compare1 ?_; refine Subscript_ ?_; refine ldL (by assumption) (by first | rfl | assumption) ?_
  refine rInt fun _ _ => ?_; try dsimp only
  refine rItemT (hN1.at S.le) (by decide) (by decide) rfl rfl ?_
  refine rInt fun _ _ => ?_; refine eq_int ?_; refine wpAny_truthy_bool ?_; try dsimp only
  by_cases e1 : n1 = 0
  · rw [if_pos (by simpa using e1)]
    refine wpAny_execs_cons ?_; refine wpAny_Return_some ?_; refine Tuple_ ?_; refine wpAny_items_cons ?_; refine rInt fun _ _ => ?_; refine wpAny_items_cons ?_
    refine wpAny_BinOp ?_; refine Subscript_ ?_; refine ldL (by assumption) (by first | rfl | assumption) ?_; refine rInt fun _ _ => ?_; try dsimp only
    refine rItemT (hN1.at S.le) (by decide) (by decide) rfl rfl ?_
    refine IfExp_ ?_; refine wpAny_isTrue_Compare1 ?_; refine Subscript_ ?_; refine ldL (by assumption) (by first | rfl | assumption) ?_; refine rInt fun _ _ => ?_
    try dsimp only
    refine rItemT (hN2.at S.le) (by decide) (by decide) rfl rfl ?_
    refine rInt fun _ _ => ?_; refine eq_int ?_; refine wpAny_truthy_bool ?_; try dsimp only
    by_cases e2 : n2 = 0
    · rw [if_pos (by simpa using e2)]
      refine Subscript_ ?_; refine ldL (by assumption) (by first | rfl | assumption) ?_; refine rInt fun _ _ => ?_; try dsimp only
      refine rItemT (hN2.at S.le) (by decide) (by decide) rfl rfl ?_
      refine rAddL S (S.le _ _ hl1) (S.le _ _ hl2) (by exact om_23 hz' z1 z2) fun a h' S => ?_
      obtain ⟨g1, le1, hl3, S⟩ := S.frz
      refine wpAny_items_nil ?_; try dsimp only
      refine rNewTuple S (Nat.le_of_ble_eq_true rfl) fun x h' g2 le2 ht2 S => ?_
      refine hQ _ _ _ _ S.gr ?_
      rw [joinT, if_pos (show (T.mk n1 ks1).n = 0 from e1), if_pos (show (T.mk n2 ks2).n = 0 from e2)]
      exact .mk ht2 (hl3.mono le2) ((hK1.mono S.le0).app (hK2.mono S.le0))
    · rw [if_neg (by simpa using e2)]
      refine List_ ?_; refine wpAny_items_cons ?_; refine ldL (by assumption) (by first | rfl | assumption) ?_; refine wpAny_items_nil ?_; try dsimp only
      refine rNewList S (Nat.le_of_ble_eq_true rfl) fun a h' S => ?_
      refine rAddL S (S.le _ _ hl1) (S.mt _ (.head _)) (by simp; exact om_26 hz' z1) fun a h' S => ?_
      obtain ⟨g1, le1, hl3, S⟩ := S.frz
      refine wpAny_items_nil ?_; try dsimp only
      refine rNewTuple S (Nat.le_of_ble_eq_true rfl) fun x h' g2 le2 ht2 S => ?_
      refine hQ _ _ _ _ S.gr ?_
      rw [joinT, if_pos (show (T.mk n1 ks1).n = 0 from e1), if_neg (show ¬ (T.mk n2 ks2).n = 0 from e2)]
      exact .mk ht2 (hl3.mono le2) ((hK1.mono S.le0).app (.cons (.mk (hN2.mono S.le0) (hL2.mono S.le0) (hK2.mono S.le0)) .nil))
  · rw [if_neg (by simpa using e1)]
    obtain ⟨p2, ⟨b1, r1, q1⟩, b2, r2, q2⟩ := hk e1
    have p2' : 0 < n2 := p2
    have e2 : n2 ≠ 0 := by exact om_27 p2'
    refine wpAny_execs_nil ?_; refine wpAny_execs_cons ?_; refine wpAny_If ?_; refine wpAny_isTrue_BoolOp ?_; refine wpAny_allTrue_And_cons ?_
    refine wpAny_isTrue_Compare1 ?_; refine Subscript_ ?_; refine ldL (by assumption) (by first | rfl | assumption) ?_; refine rInt fun _ _ => ?_; try dsimp only
    refine rItemT (hN2.at S.le) (by decide) (by decide) rfl rfl ?_
    refine rInt fun _ _ => ?_; refine gt_int ?_; refine wpAny_truthy_bool ?_; try dsimp only
    rw [if_pos (by simpa using p2')]
    refine wpAny_allTrue_And_cons ?_; refine wpAny_isTrue_value ?_; refine Subscript_ ?_; refine Subscript_ ?_
    refine ldL (by assumption) (by first | rfl | assumption) ?_; refine Subscript_ ?_; refine ldL (by assumption) (by first | rfl | assumption) ?_
    refine rInt fun _ _ => ?_; try dsimp only
    refine rItemT (hN2.at S.le) (by decide) (by decide) rfl rfl ?_
    refine rTab S ht q2 (fun v tb he => ?_)
    obtain ⟨a', x0, x1, x2, x3, t', rfl, hT⟩ := he
    refine rInt fun _ _ => ?_; try dsimp only
    refine rItemT (hT.at S.le) (by decide) (by decide) rfl rfl ?_
    refine wpAny_truthy_bool ?_; try dsimp only
    cases hr2 : r2 with
    | false =>
      refine iteF ?_; refine iteF ?_; refine wpAny_execs_nil ?_; refine wpAny_execs_cons ?_; refine wpAny_Return_some ?_; refine Tuple_ ?_; refine wpAny_items_cons ?_
      refine rInt fun _ _ => ?_; refine wpAny_items_cons ?_; refine List_ ?_; refine wpAny_items_cons ?_; refine ldL (by assumption) (by first | rfl | assumption) ?_
      refine wpAny_items_cons ?_; refine ldL (by assumption) (by first | rfl | assumption) ?_; refine wpAny_items_nil ?_; try dsimp only
      refine rNewList S (Nat.le_of_ble_eq_true rfl) fun a h' S => ?_
      obtain ⟨g1, le1, hl3, S⟩ := S.frz
      refine wpAny_items_nil ?_; try dsimp only
      refine rNewTuple S (Nat.le_of_ble_eq_true rfl) fun x h' g2 le2 ht2 S => ?_
      refine hQ _ _ _ _ S.gr ?_
      rw [joinT, if_neg (show ¬ (T.mk n1 ks1).n = 0 from e1), re_of q2, hr2]
      exact .mk ht2 (hl3.mono le2) (.cons (.mk (hN1.mono S.le0) (hL1.mono S.le0) (hK1.mono S.le0)) (.cons (.mk (hN2.mono S.le0) (hL2.mono S.le0) (hK2.mono S.le0)) .nil))
    | true =>
      refine iteT ?_; refine wpAny_allTrue_And_cons ?_; refine wpAny_isTrue_Not ?_; refine wpAny_isTrue_value ?_; refine Subscript_ ?_; refine Subscript_ ?_
      refine ldL (by assumption) (by first | rfl | assumption) ?_; refine Subscript_ ?_; refine ldL (by assumption) (by first | rfl | assumption) ?_
      refine rInt fun _ _ => ?_; try dsimp only
      refine rItemT (hN1.at S.le) (by decide) (by decide) rfl rfl ?_
      refine rTab S ht q1 (fun v tb he => ?_)
      obtain ⟨a', x0, x1, x2, x3, t', rfl, hT⟩ := he
      refine rInt fun _ _ => ?_; try dsimp only
      refine rItemT (hT.at S.le) (by decide) (by decide) rfl rfl ?_
      refine wpAny_truthy_bool ?_; try dsimp only
      cases hr1 : r1 with
      | true =>
        refine iteNT ?_; refine iteF ?_; refine wpAny_execs_nil ?_; refine wpAny_execs_cons ?_; refine wpAny_Return_some ?_; refine Tuple_ ?_; refine wpAny_items_cons ?_
        refine rInt fun _ _ => ?_; refine wpAny_items_cons ?_; refine List_ ?_; refine wpAny_items_cons ?_; refine ldL (by assumption) (by first | rfl | assumption) ?_
        refine wpAny_items_cons ?_; refine ldL (by assumption) (by first | rfl | assumption) ?_; refine wpAny_items_nil ?_; try dsimp only
        refine rNewList S (Nat.le_of_ble_eq_true rfl) fun a h' S => ?_
        obtain ⟨g1, le1, hl3, S⟩ := S.frz
        refine wpAny_items_nil ?_; try dsimp only
        refine rNewTuple S (Nat.le_of_ble_eq_true rfl) fun x h' g2 le2 ht2 S => ?_
        refine hQ _ _ _ _ S.gr ?_
        rw [joinT, if_neg (show ¬ (T.mk n1 ks1).n = 0 from e1), re_of q2, re_of q1, hr2, hr1]
        exact .mk ht2 (hl3.mono le2) (.cons (.mk (hN1.mono S.le0) (hL1.mono S.le0) (hK1.mono S.le0)) (.cons (.mk (hN2.mono S.le0) (hL2.mono S.le0) (hK2.mono S.le0)) .nil))
      | false =>
        refine iteNF ?_; refine wpAny_allTrue_And_nil ?_; refine iteT ?_; refine wpAny_execs_cons ?_; refine wpAny_Return_some ?_; refine Tuple_ ?_
        refine wpAny_items_cons ?_; refine Subscript_ ?_; refine ldL (by assumption) (by first | rfl | assumption) ?_; refine rInt fun _ _ => ?_; try dsimp only
        refine rItemT (hN1.at S.le) (by decide) (by decide) rfl rfl ?_
        refine wpAny_items_cons ?_; refine wpAny_BinOp ?_; refine Subscript_ ?_; refine ldL (by assumption) (by first | rfl | assumption) ?_; refine rInt fun _ _ => ?_
        try dsimp only
        refine rItemT (hN1.at S.le) (by decide) (by decide) rfl rfl ?_
        refine List_ ?_; refine wpAny_items_cons ?_; refine ldL (by assumption) (by first | rfl | assumption) ?_; refine wpAny_items_nil ?_; try dsimp only
        refine rNewList S (Nat.le_of_ble_eq_true rfl) fun a h' S => ?_
        refine rAddL S (S.le _ _ hl1) (S.mt _ (.head _)) (by simp; exact om_26 hz' z1) fun a h' S => ?_
        obtain ⟨g1, le1, hl3, S⟩ := S.frz
        refine wpAny_items_nil ?_; try dsimp only
        refine rNewTuple S (Nat.le_of_ble_eq_true rfl) fun x h' g2 le2 ht2 S => ?_
        refine hQ _ _ _ _ S.gr ?_
        rw [joinT, if_neg (show ¬ (T.mk n1 ks1).n = 0 from e1), re_of q2, re_of q1, hr2, hr1]
        exact .mk ht2 (hl3.mono le2) ((hK1.mono S.le0).app (.cons (.mk (hN2.mono S.le0) (hL2.mono S.le0) (hK2.mono S.le0)) .nil))

theorem law_base_spec {w : World} {A : Around} {E : Value → Shared → Prop} {s : Shared} {Q : Value → Shared → Prop} {g : G} {v : Value} {d : Addr} {t : T} {tab : Tab} {b : Str} {r : Bool} (R : Room A 10 40) (B : Bs w g) (hg : Le g s.heap.get?)
    (hv : LT g v t) (ht : TabG w g d tab) (hk : tab.lookup t.key = some (b, r)) (hne : t.n > 0 ∨ t.ks ≠ [])
    (hQ : ∀ tk h' tb, Grow g s.heap.get? g h' → Q (.str b tk) { s with heap := h', toks := tb }) : wpAny (model Pw w) A (call (.ref 148) [v, .ref d]) Q E s := by
  refine enterM (mu := []) (fr := s.heap.get?) (binds := [(Str.ofString "tree", v), (Str.ofString "table", .ref d)]) R B hg (Le.refl _) (fun _ h => nomatch h) List.nodup_nil (by k_is) (by k_is) (BindsTo.of_eq rfl) (locs rfl) (fun L h₁ S => ?_)
  cases hv with
  | @mk a l n tn vs ks hN hL hK =>
  refine wpAny_execs_cons ?_; refine wpAny_Return_some ?_; refine Subscript_ ?_; refine Subscript_ ?_; refine ldL (by assumption) (by first | rfl | assumption) ?_
  refine IfExp_ ?_; refine wpAny_isTrue_Compare1 ?_; refine Subscript_ ?_; refine ldL (by assumption) (by first | rfl | assumption) ?_; refine rInt fun _ _ => ?_
  try dsimp only
  refine rItemT (hN.at S.le) (by decide) (by decide) rfl rfl ?_
  refine rInt fun _ _ => ?_; refine gt_int ?_; refine wpAny_truthy_bool ?_; try dsimp only
  by_cases hn : 0 < n
  · rw [if_pos (by simpa using hn)]
    refine Subscript_ ?_; refine ldL (by assumption) (by first | rfl | assumption) ?_; refine rInt fun _ _ => ?_; try dsimp only
    refine rItemT (hN.at S.le) (by decide) (by decide) rfl rfl ?_
    refine rTab S ht (by simp only [T.key, gt_iff_lt, if_pos hn] at hk; exact hk) (fun v tb he => ?_)
    obtain ⟨a', x0, x1, x2, x3, t', rfl, hT⟩ := he
    refine rInt fun _ _ => ?_; try dsimp only
    refine rItemT (hT.at S.le) (by decide) (by decide) rfl rfl ?_
    exact hQ _ _ _ S.gr
  · rw [if_neg (by simpa using hn)]
    refine Subscript_ ?_; refine Subscript_ ?_; refine Subscript_ ?_; refine ldL (by assumption) (by first | rfl | assumption) ?_; refine rInt fun _ _ => ?_
    try dsimp only
    refine rItemT (hN.at S.le) (by decide) (by decide) rfl rfl ?_
    refine rInt fun _ _ => ?_; try dsimp only
    cases hK with
    | nil => exact absurd rfl (hne.resolve_left hn)
    | @cons v0 t0 vs ts h0 _ =>
    refine rItemL (hL.at S.le) (by decide) (by decide) rfl ?_
    cases h0 with
    | @mk a0 l0 n0 tn0 vs0 ks0 hN0 hL0 hK0 =>
    refine rInt fun _ _ => ?_; try dsimp only
    refine rItemT (hN0.at S.le) (by decide) (by decide) rfl rfl ?_
    refine rTab S ht (by simp only [T.key, gt_iff_lt, if_neg hn] at hk; exact hk) (fun v tb he => ?_)
    obtain ⟨a', x0, x1, x2, x3, t', rfl, hT⟩ := he
    refine rInt fun _ _ => ?_; try dsimp only
    refine rItemT (hT.at S.le) (by decide) (by decide) rfl rfl ?_
    exact hQ _ _ _ S.gr


-- part S5
theorem all_nodes_spec {w : World} {A : Around} {E : Value → Shared → Prop} {s : Shared} {Q : Value → Shared → Prop} {g : G} {l : Addr} {vs : List Value} {ts : List T} (R : Room A 20 80) (B : Bs w g) (hg : Le g s.heap.get?)
    (hl : LsG g l vs) (hv : NTs w g vs ts) (hz : sizes ts ≤ 1000)
    (hQ : ∀ r vs' g' h' tb, Grow g s.heap.get? g' h' → LsG g' r vs' → NTs w g' vs' (pres ts) → Q (.ref r) { s with heap := h', toks := tb }) : wpAny (model Pw w) A (call (.ref 47) [.ref l]) Q E s := by
  refine enterM (mu := []) (fr := s.heap.get?) (binds := [(Str.ofString "nodes", .ref l)]) R B hg (Le.refl _) (fun _ h => nomatch h) List.nodup_nil (by k_is) (by k_is) (BindsTo.of_eq rfl) (locs rfl) (fun L h₁ S => ?_)
  have R1 : Room (A.deeper (envX (Str.ofString "all_nodes") default L 47 (.ref 46) [])) 19 70 := R.deeper (by exact om_28) (by exact om_29)
  have zl := hv.len
  have zs := len_sizes ts
  have zL : vs.length ≤ sizeLine := by rw [sizeLine_eq]; exact om_30 hz zl zs
  obtain ⟨k0, hl0⟩ := hl
  refine wpAny_execs_cons ?_; refine Assign_Tuple_swapped ?_ (by rfl) (by rfl); refine Tuple_ ?_; refine wpAny_items_cons ?_; refine List_ ?_
  refine wpAny_items_nil ?_; try dsimp only
  refine rNewList S (Nat.le_of_ble_eq_true rfl) fun af h' S => ?_
  refine wpAny_items_cons ?_; refine Subscript_ ?_; refine wpAny_Call_NameR ?_; refine ldB (by assumption) (by assumption) (bnAll _ rfl) (btAll rfl) (by decide) ?_
  refine PyProof.Rows.callWith_type1 ?_; refine wpAny_items_cons ?_; refine ldL (by assumption) (by first | rfl | assumption) ?_; refine wpAny_items_nil ?_
  try dsimp only
  refine rListCopy S (S.le _ _ hl0) zL fun ac c h' S => ?_
  refine rRev S (S.mt _ (.head _)) zL fun at' h' tb S => ?_
  refine wpAny_items_nil ?_; try dsimp only
  refine rNewTuple S (Nat.le_of_ble_eq_true rfl) fun x h' g1 le1 ht1 S => ?_
  refine rUnpackT R1.hd S ht1 rfl fun h' S => ?_
  refine wpAny_assignInOrder_more ?_; refine bindName_ ?_; refine stL (by assumption) fun _ _ => ?_; refine wpAny_assignInOrder_more ?_; refine bindName_ ?_
  refine stL (by assumption) fun _ _ => ?_; refine wpAny_assignInOrder_none ?_; refine wpAny_execs_cons ?_; try dsimp only
  rename St _ _ _ _ _ _ _ => S
  refine rWhile (J := fun n h => ∃ fs us vf vu m' k1 k2, St g s.heap.get? g1 L m' [(at', lsOf vu.reverse k1), (af, lsOf vf k2)] h ∧ m' (Str.ofString "found") = some (.ref af) ∧ m' (Str.ofString "todo") = some (.ref at') ∧ NTs w g vf fs ∧ NTs w g vu us ∧ pres ts = fs ++ pres us ∧ n = sizes us)
    (sizes ts) ⟨[], ts, [], vs, _, _, _, S.sub (.cons_cons _ (.cons _ (List.Sublist.refl _))), rfl, rfl, .nil, hv, by simp, rfl⟩ ?_
  intro n h tk KK hKK hJJ
  refine hide fun PP kP => ?_
  obtain ⟨fs, us, vf, vu, m', k1, k2, S, hm1, hm2, hf, hu, hp, rfl⟩ := hJJ
  refine kP ?_
  clear kP PP
  have z1 := hf.len
  have z2 := hu.len
  have z3 := len_sizes us
  have z4 : fs.length + sizes us = sizes ts := by rw [← pres_len ts, hp, List.length_append, pres_len]
  refine wpAny_isTrue_Compare1 ?_; refine ldL (by assumption) (by first | rfl | assumption) ?_; refine List_ ?_; refine wpAny_items_nil ?_; try dsimp only
  refine rNewList S (Nat.le_of_ble_eq_true rfl) fun b h' S => ?_
  refine rNeNil (S.mt _ (.tail _ (.head _))) (S.mt _ (.head _)) (by have := R1.un; exact Nat.lt_of_le_of_lt (Nat.le_add_right _ _) this) ?_
  refine wpAny_truthy_bool ?_; try dsimp only
  have S := S.drop
  cases hu with
  | nil =>
    rw [if_neg (by simp)]
    refine wpAny_execs_cons ?_; refine wpAny_Return_some ?_; refine ldL (by assumption) (by first | rfl | assumption) ?_; try dsimp only
    obtain ⟨g2, le2, hl2, S⟩ := S.drop.frz
    refine hQ _ _ _ _ _ S.gr hl2 ?_
    rw [hp, pres, List.append_nil]
    exact hf.mono S.le0
  | @cons v t vu us hv1 hu =>
    rw [if_pos (by simp)]
    rw [List.reverse_cons] at S
    have z5 : vu.length = us.length := hu.len
    simp only [sizes] at z4
    have z6 := len_sizes us
    have zz : (16777216 : Nat) = sizeLine := sizeLine_eq.symm
    cases hv1 with
    | @mk a l n vk ks hN hL hK =>
    have z7 := hK.len
    have z8 := len_sizes ks
    simp only [T.size] at z4
    refine wpAny_execs_cons ?_; refine wpAny_Assign_Name ?_; refine MethodCall_ ?_; refine ldL (by assumption) (by first | rfl | assumption) ?_; try dsimp only
    refine rMethL (S.mt _ (.head _)) PySem.F.slot_list_pop PySem.F.type_list_pop ?_
    refine PyProof.Rows.callWith_method0 ?_; try dsimp only
    refine rPop S .here (by simp; exact om_31 hz z5 z6 zz z4) fun h' S => ?_
    refine stL (by assumption) fun _ _ => ?_; refine wpAny_execs_cons ?_; refine wpAny_Expr ?_; refine MethodCall_ ?_
    refine ldL (by assumption) (by first | rfl | assumption) ?_; try dsimp only
    rename St _ _ _ _ _ _ _ => S
    refine rMethL (S.mt _ (.tail _ (.head _))) PySem.F.slot_list_append PySem.F.type_list_append ?_
    refine PyProof.Rows.callWith_method1 ?_; refine wpAny_items_cons ?_; refine ldL (by assumption) (by first | rfl | assumption) ?_; refine wpAny_items_nil ?_
    try dsimp only
    refine rAppend S (.there .here) (by exact om_32 hz z1 zz z4) fun h' S => ?_
    refine wpAny_execs_cons ?_; refine wpAny_Expr ?_; refine MethodCall_ ?_; refine ldL (by assumption) (by first | rfl | assumption) ?_; try dsimp only
    refine rMethL (S.mt _ (.head _)) PySem.F.slot_list_extend PySem.F.type_list_extend ?_
    refine PyProof.Rows.callWith_method1 ?_; refine wpAny_items_cons ?_; refine Subscript_ ?_; refine Attribute_Name_ ?_
    refine ldL (by assumption) (by first | rfl | assumption) ?_; try dsimp only
    refine rKids B S (hN.mono S.le0) fun tb => ?_
    obtain ⟨kk, hl1⟩ := id hL
    refine rRev S (S.le _ _ (S.le0 _ _ hl1)) (by exact om_33 hz zz z4 z7 z8) fun sl h' tb S => ?_
    refine wpAny_items_nil ?_; try dsimp only
    refine rExtend S (S.mt _ (.head _)) S.ne01 (S.mL _ (.head _)) (.there .here) (by simp; exact om_34 hz z5 z6 zz z4 z7 z8) fun h' S => ?_
    refine wpAny_execs_nil ?_; try dsimp only
    have S := S.drop
    rw [← List.reverse_append] at S
    refine hKK (sizes (ks ++ us)) _ _ ?_ ⟨fs ++ [.mk n ks], ks ++ us, vf ++ [.ref a], vk ++ vu, (fun y => if y = Str.ofString "node" then some (.ref a) else m' y), _, _, S, hm1, hm2, hf.app (.cons (.mk hN hL hK) .nil), hK.app hu, ?_, rfl⟩
    · rw [sizes_app]; simp only [sizes, T.size]; exact om_35
    · rw [hp, pres_app, List.append_assoc]; simp [pres, T.pre]


-- part S6
theorem numbers_told_spec {w : World} {A : Around} {E : Value → Shared → Prop} {s : Shared} {Q : Value → Shared → Prop} {g : G} {l : Addr} {vs : List Value} {ts : List T} (R : Room A 30 120) (B : Bs w g) (hg : Le g s.heap.get?)
    (hl : LsG g l vs) (hv : NTs w g vs ts) (hz : sizes ts ≤ 1000)
    (hQ : ∀ r vs' g' h' tb, Grow g s.heap.get? g' h' → LsG g' r vs' → IntsAre vs' (((pres ts).map T.n).filter fun n => decide (0 < n)) → Q (.ref r) { s with heap := h', toks := tb }) : wpAny (model Pw w) A (call (.ref 52) [.ref l]) Q E s := by
  refine enterM (mu := []) (fr := s.heap.get?) (binds := [(Str.ofString "nodes", .ref l)]) R B hg (Le.refl _) (fun _ h => nomatch h) List.nodup_nil (by k_is) (by k_is) (BindsTo.of_eq rfl) (locs rfl) (fun L h₁ S => ?_)
  refine wpAny_execs_cons ?_; refine wpAny_Return_some ?_; try dsimp only
  refine rCompE (cl := []) ?_ rfl
  refine wpAny_Call_NameR ?_; refine ldG (by assumption) (by assumption) (gnAll _ rfl) ?_
  refine callWith_K (St.kin (by assumption) (by assumption)) (kpAll _ _ (by decide)) ?_; refine wpAny_items_cons ?_
  refine ldL (by assumption) (by first | rfl | assumption) ?_; refine wpAny_items_nil ?_; refine keepB (by assumption) (by assumption) ?_; try dsimp only
  refine all_nodes_spec (R.deeper (by exact om_36) (by exact om_37)) B S.le hl hv hz fun r vs' g1 h' tb X hl1 hv1 => ?_
  have S := S.call X
  have z1 := hv1.len
  have z2 := pres_len ts
  refine compLE R.hd S hl1 (by rw [sizeLine_eq]; exact om_38 hz z1 z2) (J := fun i _ ys => IntsAre ys ((((pres ts).take i).map T.n).filter fun n => decide (0 < n))) .nil ?_ ?_
  · intro h0 i v g' ys C mc Y h tk KY KN hKY hKN hi hvi hJ hys hle hm S
    obtain ⟨t, ht, hN⟩ := hv1.get hvi
    dsimp only
    cases hN with
    | @mk a l n vk ks hN hL hK =>
    refine wpAny_tests_one ?_
    refine wpAny_isTrue_Compare1 ?_; refine Attribute_Name_ ?_; refine ldL (by assumption) (by first | rfl | assumption) ?_; try dsimp only
    refine rNumber B S (hN.mono hle) fun tn tb => ?_
    refine rInt fun _ _ => ?_; refine gt_int ?_; refine wpAny_truthy_bool ?_; try dsimp only
    by_cases hn : 0 < n
    · rw [if_pos (by simpa using hn)]
      refine Attribute_Name_ ?_; refine ldL (by assumption) (by first | rfl | assumption) ?_; try dsimp only
      refine rNumber B S (hN.mono hle) fun tn tb => ?_
      refine hKY _ _ _ _ _ (Le.refl _) S ?_
      dsimp only
      rw [take_one ht, List.map_append, List.filter_append]
      refine hJ.append ?_
      simp only [List.map_cons, List.map_nil, T.n, List.filter_cons, hn, decide_true, if_true, List.filter_nil]
      exact .cons _ _ .nil
    · rw [if_neg (by simpa using hn)]
      refine hKN _ _ _ _ (Le.refl _) S ?_
      dsimp only
      rw [take_one ht, List.map_append, List.filter_append]
      simp only [List.map_cons, List.map_nil, T.n, List.filter_cons, hn, decide_false, Bool.false_eq_true, if_false, List.filter_nil, List.append_nil]
      exact hJ
  · intro D g' ys k h tk hJ hle S
    obtain ⟨g2, le2, hl2, S⟩ := S.frz
    refine hQ _ _ _ _ _ S.gr hl2 ?_
    rw [z1, List.take_of_length_le (Nat.le_refl _)] at hJ
    exact hJ


-- part S7
theorem size_get {ts : List T} {i : Nat} {t : T} (e : ts[i]? = some t) : t.size ≤ sizes ts := by
  induction ts generalizing i with
  | nil => simp at e
  | cons u r ih =>
    cases i with
    | zero => simp at e; subst e; simp [sizes]
    | succ i => simp at e; have := ih e; simp [sizes]; exact om_39 this

theorem law_told_all (n : Nat) : ∀ (t : T), t.size ≤ n → ∀ {w : World} {A : Around} {E : Value → Shared → Prop} {s : Shared} {Q : Value → Shared → Prop} {g : G} {v : Value}, Room A (20 + 3 * t.size) (80 + 30 * t.size) → Bs w g → Le g s.heap.get? → t.size ≤ 1000 →
    LT g v t → (∀ r g' h' tb, Grow g s.heap.get? g' h' → TT g' r t → Q r { s with heap := h', toks := tb }) → wpAny (model Pw w) A (call (.ref 127) [v]) Q E s := by
  induction n with
  | zero => intro t ht; cases t; simp [T.size] at ht
  | succ n ih =>
    intro t ht w A E s Q g v R B hg hz hv hQ
    cases hv with
    | @mk a l k tn vs ks hN hL hK =>
    simp only [T.size] at ht R hz
    have z1 := hK.len
    have z2 := len_sizes ks
    refine enterM (mu := []) (fr := s.heap.get?) (binds := [(Str.ofString "tree", .ref a)]) R B hg (Le.refl _) (fun _ h => nomatch h) List.nodup_nil (by k_is) (by k_is) (BindsTo.of_eq rfl) (locs rfl) (fun L h₁ S => ?_)
    refine wpAny_execs_cons ?_; refine wpAny_Return_some ?_; refine Tuple_ ?_; refine wpAny_items_cons ?_; refine Subscript_ ?_
    refine ldL (by assumption) (by first | rfl | assumption) ?_; refine rInt fun _ _ => ?_; try dsimp only
    refine rItemT (hN.at S.le) (by decide) (by decide) rfl rfl ?_
    refine wpAny_items_cons ?_; refine wpAny_Call_NameR ?_; refine ldB (by assumption) (by assumption) (bnAll _ rfl) (btAll rfl) (by decide) ?_
    refine PyProof.Rows.callWith_type1 ?_; refine wpAny_items_cons ?_; try dsimp only
    refine rCompE (cl := []) ?_ rfl
    refine Subscript_ ?_; refine ldL (by assumption) (by first | rfl | assumption) ?_; refine rInt fun _ _ => ?_; try dsimp only
    refine rItemT (hN.at S.le) (by decide) (by decide) rfl rfl ?_
    refine compLE R.hd S hL (by rw [sizeLine_eq]; exact om_40 hz z1 z2) (J := fun i g' ys => TTs g' ys (ks.take i)) .nil ?_ ?_
    · intro h0 i v g' ys C mc Y h tk KY KN hKY hKN hi hvi hJ hys hle hm S
      obtain ⟨u, hu, hNu⟩ := hK.get hvi
      have z3 := size_get hu
      refine wpAny_tests_nil ?_
      rw [if_pos rfl]
      refine wpAny_Call_NameR ?_; refine ldG (by assumption) (by assumption) (gnAll _ rfl) ?_
      refine callWith_K (St.kin (by assumption) (by assumption)) (kpAll _ _ (by decide)) ?_; refine wpAny_items_cons ?_
      refine ldL (by assumption) (by first | rfl | assumption) ?_; refine wpAny_items_nil ?_; refine keepB (by assumption) (by assumption) ?_; try dsimp only
      refine ih u (by exact om_41 ht z3) (R.deeper (by exact om_42 z3) (by exact om_43 z3)) (B.mono hle) S.le (by exact om_44 hz z3) (hNu.mono hle) fun r g2 h' tb X hr => ?_
      refine hKY _ _ _ _ _ X.le (S.call X) ?_
      dsimp only
      rw [take_one hu]
      exact (hJ.mono X.le).app (.cons hr .nil)
    · intro D g' ys k h tk hJ hle S
      rw [z1, List.take_of_length_le (Nat.le_refl _)] at hJ
      have z4 := hJ.len
      refine wpAny_items_nil ?_; try dsimp only
      refine rTupleOf S (S.mt _ (.head _)) (by rw [sizeLine_eq]; exact om_45 hz z2 z4) fun x h' g2 le2 ht2 S => ?_
      refine wpAny_items_nil ?_; try dsimp only
      refine rNewTuple S (Nat.le_of_ble_eq_true rfl) fun y h' g3 le3 ht3 S => ?_
      exact hQ _ _ _ _ S.gr (.mk ht3 (ht2.mono le3) (hJ.mono (le2.trans le3)))
theorem law_told_spec {t : T} {w : World} {A : Around} {E : Value → Shared → Prop} {s : Shared} {Q : Value → Shared → Prop} {g : G} {v : Value} (R : Room A (20 + 3 * t.size) (80 + 30 * t.size)) (B : Bs w g) (hg : Le g s.heap.get?) (hz : t.size ≤ 1000)
    (hv : LT g v t) (hQ : ∀ r g' h' tb, Grow g s.heap.get? g' h' → TT g' r t → Q r { s with heap := h', toks := tb }) : wpAny (model Pw w) A (call (.ref 127) [v]) Q E s :=
  law_told_all t.size t (Nat.le_refl _) R B hg hz hv hQ

theorem law_node_all (n : Nat) : ∀ (t : T), t.size ≤ n → ∀ {w : World} {A : Around} {E : Value → Shared → Prop} {s : Shared} {Q : Value → Shared → Prop} {g : G} {v : Value}, Room A (20 + 3 * t.size) (80 + 30 * t.size) → Bs w g → Le g s.heap.get? → t.size ≤ 1000 →
    LT g v t → (∀ r g' h' tb, Grow g s.heap.get? g' h' → NT w g' r t → Q r { s with heap := h', toks := tb }) → wpAny (model Pw w) A (call (.ref 122) [v]) Q E s := by
  induction n with
  | zero => intro t ht; cases t; simp [T.size] at ht
  | succ n ih =>
    intro t ht w A E s Q g v R B hg hz hv hQ
    cases hv with
    | @mk a l k tn vs ks hN hL hK =>
    simp only [T.size] at ht R hz
    have z1 := hK.len
    have z2 := len_sizes ks
    refine enterM (mu := []) (fr := s.heap.get?) (binds := [(Str.ofString "tree", .ref a)]) R B hg (Le.refl _) (fun _ h => nomatch h) List.nodup_nil (by k_is) (by k_is) (BindsTo.of_eq rfl) (locs rfl) (fun L h₁ S => ?_)
    refine wpAny_execs_cons ?_; refine wpAny_Return_some ?_; refine wpAny_Call_NameR ?_; refine ldG (by assumption) (by assumption) (gnAll _ rfl) ?_
    refine callWith_K (St.kin (by assumption) (by assumption)) (kpAll _ _ (by decide)) ?_; refine wpAny_items_cons ?_; refine Subscript_ ?_
    refine ldL (by assumption) (by first | rfl | assumption) ?_; refine rInt fun _ _ => ?_; try dsimp only
    refine rItemT (hN.at S.le) (by decide) (by decide) rfl rfl ?_
    refine wpAny_items_cons ?_; try dsimp only
    refine rCompE (cl := []) ?_ rfl
    refine Subscript_ ?_; refine ldL (by assumption) (by first | rfl | assumption) ?_; refine rInt fun _ _ => ?_; try dsimp only
    refine rItemT (hN.at S.le) (by decide) (by decide) rfl rfl ?_
    refine compLE R.hd S hL (by rw [sizeLine_eq]; exact om_40 hz z1 z2) (J := fun i g' ys => NTs w g' ys (ks.take i)) .nil ?_ ?_
    · intro h0 i v g' ys C mc Y h tk KY KN hKY hKN hi hvi hJ hys hle hm S
      obtain ⟨u, hu, hNu⟩ := hK.get hvi
      have z3 := size_get hu
      refine wpAny_tests_nil ?_
      rw [if_pos rfl]
      refine wpAny_Call_NameR ?_; refine ldG (by assumption) (by assumption) (gnAll _ rfl) ?_
      refine callWith_K (St.kin (by assumption) (by assumption)) (kpAll _ _ (by decide)) ?_; refine wpAny_items_cons ?_
      refine ldL (by assumption) (by first | rfl | assumption) ?_; refine wpAny_items_nil ?_; refine keepB (by assumption) (by assumption) ?_; try dsimp only
      refine ih u (by exact om_41 ht z3) (R.deeper (by exact om_42 z3) (by exact om_43 z3)) (B.mono hle) S.le (by exact om_44 hz z3) (hNu.mono hle) fun r g2 h' tb X hr => ?_
      refine hKY _ _ _ _ _ X.le (S.call X) ?_
      dsimp only
      rw [take_one hu]
      exact (hJ.mono X.le).app (.cons hr .nil)
    · intro D g' ys k h tk hJ hle S
      rw [z1, List.take_of_length_le (Nat.le_refl _)] at hJ
      obtain ⟨g2, le2, hl2, S⟩ := S.frz
      refine wpAny_items_nil ?_; refine keepB (by assumption) (by assumption) ?_; try dsimp only
      refine Node_spec (R.deeper (by exact om_46) (by exact om_47)) (B.mono S.le0) S.le fun x g3 h' tb X hN3 => ?_
      exact hQ _ _ _ _ (S.call X).gr (.mk hN3 (hl2.mono X.le) (hJ.mono (le2.trans X.le)))
theorem law_node_spec {t : T} {w : World} {A : Around} {E : Value → Shared → Prop} {s : Shared} {Q : Value → Shared → Prop} {g : G} {v : Value} (R : Room A (20 + 3 * t.size) (80 + 30 * t.size)) (B : Bs w g) (hg : Le g s.heap.get?) (hz : t.size ≤ 1000)
    (hv : LT g v t) (hQ : ∀ r g' h' tb, Grow g s.heap.get? g' h' → NT w g' r t → Q r { s with heap := h', toks := tb }) : wpAny (model Pw w) A (call (.ref 122) [v]) Q E s :=
  law_node_all t.size t (Nat.le_refl _) R B hg hz hv hQ


-- part S8
mutual
noncomputable def T.par (above : Int) : T → List (Int × Int)
  | .mk n ks => (if n > 0 then [(n, above)] else []) ++ pars n ks
noncomputable def pars (above : Int) : List T → List (Int × Int)
  | [] => []
  | t :: ts => t.par above ++ pars above ts
end
theorem pars_app (p : Int) (a b : List T) : pars p (a ++ b) = pars p a ++ pars p b := by
  induction a with
  | nil => simp [pars]
  | cons t r ih => simp [pars, ih]
mutual
theorem par_len (p : Int) : ∀ t : T, (t.par p).length ≤ t.size
  | .mk n ks => by
    have := pars_len n ks
    simp only [T.par, T.size, List.length_append]
    split <;> simp <;> (first | exact om_16 this | exact om_48 this)
theorem pars_len (p : Int) : ∀ ts : List T, (pars p ts).length ≤ sizes ts
  | [] => by simp [pars]
  | t :: ts => by
    have h1 := par_len p t
    have h2 := pars_len p ts
    simp only [pars, sizes, List.length_append]; exact om_49 h1 h2
end
inductive PR (g : G) : List Value → List (Int × Int) → Prop
  | nil : PR g [] []
  | cons {a : Addr} {x y : Int} {t u : Tok} {vs : List Value} {ps : List (Int × Int)} : TpG g a [.int x t, .int y u] → PR g vs ps → PR g (.ref a :: vs) ((x, y) :: ps)
theorem PR.mono {g g' : G} (k : Le g g') {vs ps} (x : PR g vs ps) : PR g' vs ps := by
  induction x with
  | nil => exact .nil
  | cons a _ ih => exact .cons (a.mono k) ih
theorem PR.app {g : G} {vs ws ps qs} (x : PR g vs ps) (y : PR g ws qs) : PR g (vs ++ ws) (ps ++ qs) := by
  induction x with
  | nil => exact y
  | cons a _ ih => exact .cons a ih
theorem PR.len {g : G} {vs ps} (x : PR g vs ps) : vs.length = ps.length := by
  induction x with
  | nil => rfl
  | cons a _ ih => simp [ih]

theorem law_parents_all (n : Nat) : ∀ (t : T), t.size ≤ n → ∀ {w : World} {A : Around} {E : Value → Shared → Prop} {s : Shared} {Q : Value → Shared → Prop} {g : G} {v : Value} {p : Int} {tp : Tok}, Room A (20 + 3 * t.size) (80 + 30 * t.size) → Bs w g → Le g s.heap.get? → t.size ≤ 1000 →
    LT g v t → (∀ r vs' g' h' tb, Grow g s.heap.get? g' h' → LsG g' r vs' → PR g' vs' (t.par p) → Q (.ref r) { s with heap := h', toks := tb }) → wpAny (model Pw w) A (call (.ref 134) [v, .int p tp]) Q E s := by
  induction n with
  | zero => intro t ht; cases t; simp [T.size] at ht
  | succ n ih =>
    intro t ht w A E s Q g v p tp R B hg hz hv hQ
    cases hv with
    | @mk a l k tn vs ks hN hL hK =>
    simp only [T.size] at ht R hz
    have z1 := hK.len
    have z2 := len_sizes ks
    have hd1 := R.hd
    refine enterM (mu := []) (fr := s.heap.get?) (binds := [(Str.ofString "tree", .ref a), (Str.ofString "above", .int p tp)]) R B hg (Le.refl _) (fun _ h => nomatch h) List.nodup_nil (by k_is) (by k_is) (BindsTo.of_eq rfl) (locs rfl) (fun L h₁ S => ?_)
    refine wpAny_execs_cons ?_; refine wpAny_Assign_Name ?_; refine IfExp_ ?_; refine wpAny_isTrue_Compare1 ?_; refine Subscript_ ?_
    refine ldL (by assumption) (by first | rfl | assumption) ?_; refine rInt fun _ _ => ?_; try dsimp only
    refine rItemT (hN.at S.le) (by decide) (by decide) rfl rfl ?_
    refine rInt fun _ _ => ?_; refine gt_int ?_; refine wpAny_truthy_bool ?_; try dsimp only
    refine rJoin (fun v s' => ∃ fl fvs g1 h' tk, v = .ref fl ∧ s' = { s with heap := h', toks := tk } ∧ Le g g1 ∧ LsG g1 fl fvs ∧ PR g1 fvs (if k > 0 then [(k, p)] else []) ∧ St g s.heap.get? g1 L (fun y => List.lookup y [(Str.ofString "tree", Value.ref a), (Str.ofString "above", .int p tp)].reverse) [] h') ?_ ?_ ?_
    · intro hc
      have hc : k > 0 := by simpa using hc
      refine List_ ?_; refine wpAny_items_cons ?_; refine Tuple_ ?_; refine wpAny_items_cons ?_; refine Subscript_ ?_
      refine ldL (by assumption) (by first | rfl | assumption) ?_; refine rInt fun _ _ => ?_; try dsimp only
      refine rItemT (hN.at S.le) (by decide) (by decide) rfl rfl ?_
      refine wpAny_items_cons ?_; refine ldL (by assumption) (by first | rfl | assumption) ?_; refine wpAny_items_nil ?_; try dsimp only
      refine rNewTuple S (Nat.le_of_ble_eq_true rfl) fun x h' g1 le1 ht1 S => ?_
      refine wpAny_items_nil ?_; try dsimp only
      refine rNewList S (Nat.le_of_ble_eq_true rfl) fun y h' S => ?_
      obtain ⟨g2, le2, hl2, S⟩ := S.frz
      refine ⟨_, _, _, _, _, rfl, rfl, le1.trans le2, hl2, ?_, S⟩
      rw [if_pos hc]
      exact .cons (ht1.mono le2) .nil
    · intro hc
      have hc : ¬ k > 0 := by simpa using hc
      refine List_ ?_; refine wpAny_items_nil ?_; try dsimp only
      refine rNewList S (Nat.le_of_ble_eq_true rfl) fun y h' S => ?_
      obtain ⟨g2, le2, hl2, S⟩ := S.frz
      refine ⟨_, _, _, _, _, rfl, rfl, le2, hl2, ?_, S⟩
      rw [if_neg hc]
      exact .nil
    intro mq1 mq2 hJJ
    refine hide fun PP kP => ?_
    obtain ⟨fl, fvs, g1, h', tk, rfl, rfl, le1, hfl, hpr, S⟩ := hJJ
    refine kP ?_
    clear kP PP
    refine stL (by assumption) fun _ _ => ?_; refine wpAny_execs_cons ?_; refine wpAny_For ?_; refine Subscript_ ?_
    refine ldL (by assumption) (by first | rfl | assumption) ?_; refine rInt fun _ _ => ?_; try dsimp only
    rename St _ _ _ _ _ _ _ => S
    refine rItemT ((hN.mono le1).at S.le) (by decide) (by decide) rfl rfl ?_
    refine forL (J := fun i g' m' mu' => mu' = [] ∧ ∃ fl vs, m' (Str.ofString "found") = some (.ref fl) ∧ m' (Str.ofString "tree") = some (.ref a) ∧ LsG g' fl vs ∧ PR g' vs ((if k > 0 then [(k, p)] else []) ++ pars k (ks.take i))) R.hd S (hL.mono le1) ⟨rfl, fl, fvs, rfl, rfl, hfl, by simpa [pars] using hpr⟩ ?_ ?_
    · intro i v g' m' mq1 X h tk KK hKK hvi hJJ hle S
      refine hide fun PP kP => ?_
      obtain ⟨rfl, fl, vs', hm1, hm2, hfl, hpr⟩ := hJJ
      refine kP ?_
      clear kP PP
      obtain ⟨u, hu, hNu⟩ := hK.get hvi
      have z3 := size_get hu
      have z4 := hpr.len
      refine PyProof.Rows.assign_Name ?_; refine stL (by assumption) fun _ _ => ?_; refine wpAny_execs_cons ?_; refine wpAny_Assign_Name ?_; refine wpAny_BinOp ?_
      refine ldL (by assumption) (by first | rfl | assumption) ?_; refine wpAny_Call_NameR ?_; refine ldG (by assumption) (by assumption) (gnAll _ rfl) ?_
      refine callWith_K (St.kin (by assumption) (by assumption)) (kpAll _ _ (by decide)) ?_; refine wpAny_items_cons ?_
      refine ldL (by assumption) (by first | rfl | assumption) ?_; refine wpAny_items_cons ?_; refine Subscript_ ?_
      refine ldL (by assumption) (by first | rfl | assumption) ?_; refine rInt fun _ _ => ?_; try dsimp only
      rename St _ _ _ _ _ _ _ => S
      refine rItemT ((hN.mono (le1.trans hle)).at S.le) (by decide) (by decide) rfl rfl ?_
      refine wpAny_items_nil ?_; refine keepB (by assumption) (by assumption) ?_; try dsimp only
      refine ih u (by exact om_41 ht z3) (R.deeper (by exact om_42 z3) (by exact om_43 z3)) (B.mono (le1.trans hle)) S.le (by exact om_44 hz z3) (hNu.mono (le1.trans hle)) fun r vs2 g2 h' tb X hl2 hp2 => ?_
      have S := S.call X
      have z5 := hp2.len
      have z6 := par_len k u
      have z7 := pars_len k (ks.take i)
      have z8 : sizes (ks.take i) ≤ sizes ks := by
        have := sizes_app (ks.take i) (ks.drop i)
        rw [List.take_append_drop] at this; exact om_50 this
      obtain ⟨c1, q1⟩ := id (hfl.mono X.le)
      obtain ⟨c2, q2⟩ := id hl2
      refine rAddL S (S.le _ _ q1) (S.le _ _ q2) (by rw [sizeLine_eq, z4, z5, List.length_append]; split <;> simp <;> (first | exact om_51 hz z3 z6 z7 z8 | exact om_52 hz z3 z6 z7 z8)) fun y h' S => ?_
      obtain ⟨g3, le3, hl3, S⟩ := S.frz
      refine stL (by assumption) fun _ _ => ?_; refine wpAny_execs_nil ?_; try dsimp only
      rename St _ _ _ _ _ _ _ => S
      refine hKK g3 (fun y_1 => if y_1 = Str.ofString "found" then some (Value.ref y) else if y_1 = Str.ofString "kid" then some v else m' y_1) [] _ _ (X.le.trans le3) S ⟨rfl, y, _, rfl, hm2, hl3, ?_⟩
      rw [take_one hu, pars_app, ← List.append_assoc]
      simp only [pars, List.append_nil]
      exact (hpr.mono (X.le.trans le3)).app (hp2.mono le3)
    · intro g' m' mq1 h tk hJJ hle S
      refine hide fun PP kP => ?_
      obtain ⟨rfl, fl, vs', hm1, hm2, hfl, hpr⟩ := hJJ
      refine kP ?_
      clear kP PP
      rw [z1, List.take_of_length_le (Nat.le_refl _)] at hpr
      refine wpAny_execs_cons ?_; refine wpAny_Return_some ?_; refine ldL (by assumption) (by first | rfl | assumption) ?_; try dsimp only
      exact hQ _ _ _ _ _ S.gr hfl hpr
theorem law_parents_spec {t : T} {w : World} {A : Around} {E : Value → Shared → Prop} {s : Shared} {Q : Value → Shared → Prop} {g : G} {v : Value} {p : Int} {tp : Tok} (R : Room A (20 + 3 * t.size) (80 + 30 * t.size)) (B : Bs w g) (hg : Le g s.heap.get?) (hz : t.size ≤ 1000)
    (hv : LT g v t) (hQ : ∀ r vs' g' h' tb, Grow g s.heap.get? g' h' → LsG g' r vs' → PR g' vs' (t.par p) → Q (.ref r) { s with heap := h', toks := tb }) : wpAny (model Pw w) A (call (.ref 134) [v, .int p tp]) Q E s :=
  law_parents_all t.size t (Nat.le_refl _) R B hg hz hv hQ


-- part F10
theorem en_dict_loop : entryFor table "dict.update.loop" = some Builtin.«dict.update.loop» := entryFor_of_tree (by kernel_rfl)
theorem qt_dict_loop (a : Args) : (Code.builtin "dict.update.loop" a).quiet = true := by with_unfolding_all rfl
theorem ms_keys : typeLookup (.type "list") "keys" = pure none := am_miss_of_fast (by kernel_rfl)
section
variable {w : World} {A : Around} {E : Value → Shared → Prop} {s : Shared} {env : Env} {g0 fr g : G} {L C : Addr} {m mc : Str → Option Value} {mu mu' : List (Addr × Obj)} {v : Value} {pos : Pos} {h h' : Heap} {vs ws : List Value} {k k2 : Nat} {l b r : Addr} {oL : Obj}

theorem miss_keys {Q : Option Value → Shared → Prop} (hx : s.heap.get? b = some (lsOf vs k)) (hA : A.handled = none)
    (h : ∀ h' tk, (∀ a o, s.heap.get? a = some o → h'.get? a = some o) → Q none { s with heap := h', toks := tk }) :
    wpAny (model Pw w) A (getAttr? (.ref b) "keys") Q E s := by
  obtain ⟨hp, g, d, tk, os⟩ := s
  have hT : ∀ tk', (⟨hp, g, d, tk', os⟩ : Shared).TypeIs (.ref b) "list" := fun _ => ⟨_, hx, rfl⟩
  have f1 := sub_AttributeError
  have f3 := F.slot_list_getattribute.lookup
  have f4 := F.slot_list_getattribute.bind (.ref b)
  have f5 := am_list_getattr_none
  unfold getAttr? getAttrBy? getAttrBy
  repeat (any_goals (first | assumption | exact hT _ | ((with_reducible show wpAny _ _ (call (Value.builtin "list.__getattribute__") _ _) _ _ _); refine call_meets F.slot_list_getattribute (hT _) am_entry_list_getattribute (F.args_list_getattribute_2 _ _) (meets_getattribute_miss_list b vs.toArray k #[] _ _ ms_keys (by decide +kernel) (by size_fits)) ⟨hx, hA, fun h' tk' e hx' => ?_⟩) | wp_step))
  obtain ⟨t', u', he⟩ := hx'.there
  show wpAny _ _ (getattributeRaised _ _ _ _ _ _ _) _ _ _
  unfold getattributeRaised
  repeat (any_goals (first | assumption | wp_step))
  exact h _ _ hx'.of.keeps
end
section
variable {K : Type} [DecidableEq K]
inductive KV : List (K × Value) → List (K × Int) → Prop
  | nil : KV [] []
  | cons {kvs ps} (k : K) (y : Int) (t : Tok) : KV kvs ps → KV ((k, .int y t) :: kvs) ((k, y) :: ps)
noncomputable def put (ps : List (K × Int)) (k : K) (y : Int) : List (K × Int) :=
  if ps.any (fun p => decide (p.1 = k)) then ps.map (fun p => if p.1 = k then (p.1, y) else p) else ps ++ [(k, y)]
noncomputable def puts (acc ps : List (K × Int)) : List (K × Int) := ps.foldl (fun a p => put a p.1 p.2) acc
theorem KV.any {kvs : List (K × Value)} {ps : List (K × Int)} (x : KV kvs ps) (k : K) : kvs.any (fun p => decide (p.1 = k)) = ps.any (fun p => decide (p.1 = k)) := by
  induction x with
  | nil => rfl
  | cons a y t _ ih => simp only [List.any_cons, ih]
theorem KV.mapPut {kvs : List (K × Value)} {ps : List (K × Int)} (x : KV kvs ps) (k : K) (y : Int) (t : Tok) : KV (kvs.map (fun kv => if kv.1 = k then (kv.1, Value.int y t) else kv)) (ps.map (fun p => if p.1 = k then (p.1, y) else p)) := by
  induction x with
  | nil => exact .nil
  | cons a z u _ ih =>
    rw [List.map_cons, List.map_cons]
    by_cases ha : a = k
    · rw [if_pos ha, if_pos ha]; exact .cons _ _ _ ih
    · rw [if_neg ha, if_neg ha]; exact .cons _ _ _ ih
omit [DecidableEq K] in
theorem KV.snoc {kvs : List (K × Value)} {ps : List (K × Int)} (x : KV kvs ps) (k : K) (y : Int) (t : Tok) : KV (kvs ++ [(k, .int y t)]) (ps ++ [(k, y)]) := by
  induction x with
  | nil => exact .cons _ _ _ .nil
  | cons a z u _ ih => exact .cons _ _ _ ih
theorem KV.put {kvs : List (K × Value)} {ps : List (K × Int)} (x : KV kvs ps) (k : K) (y : Int) (t : Tok) : KV (stored kvs k (.int y t)) (Mine.put ps k y) := by
  unfold stored Mine.put
  rw [x.any k]
  split
  · exact x.mapPut k y t
  · exact x.snoc k y t
omit [DecidableEq K] in
theorem KV.len {kvs : List (K × Value)} {ps : List (K × Int)} (x : KV kvs ps) : kvs.length = ps.length := by
  induction x with
  | nil => rfl
  | cons _ _ _ _ ih => simp [ih]
theorem put_len (ps : List (K × Int)) (k : K) (y : Int) : (put ps k y).length ≤ ps.length + 1 := by unfold put; split <;> simp
theorem puts_len (acc ps : List (K × Int)) : (puts acc ps).length ≤ acc.length + ps.length := by
  induction ps generalizing acc with
  | nil => simp [puts]
  | cons p r ih => have h1 := ih (put acc p.1 p.2); have h2 := put_len acc p.1 p.2; simp only [puts, List.foldl_cons, List.length_cons] at h1 ⊢; exact om_53 h1 h2
noncomputable def DO {w : World} (knd : KeyKind Pw w K) (o : Obj) (ps : List (K × Int)) : Prop := ∃ kvs, o.IsDictOf knd kvs ∧ KV kvs ps
end
theorem PR.get {g : G} {vs ps} (x : PR g vs ps) {i : Nat} {v : Value} (e : vs[i]? = some v) : ∃ a p t u, ps[i]? = some p ∧ v = .ref a ∧ TpG g a [.int p.1 t, .int p.2 u] := by
  induction x generalizing i with
  | nil => simp at e
  | @cons a x y t u vs ps hT _ ih =>
    cases i with
    | zero => simp at e; subst e; exact ⟨a, (x, y), t, u, rfl, rfl, hT⟩
    | succ i => simp at e; obtain ⟨a', p, t', u', h1, h2, h3⟩ := ih e; exact ⟨a', p, t', u', by simpa using h1, h2, h3⟩
section
variable {w : World} {A : Around} {E : Value → Shared → Prop} {s : Shared} {env : Env} {g0 fr g : G} {L C : Addr} {m mc : Str → Option Value} {mu mu' : List (Addr × Obj)} {v : Value} {pos : Pos} {h h' : Heap} {vs ws : List Value} {k k2 : Nat} {l b r : Addr} {oL : Obj}

theorem dict_loop {D I : Addr} {ps : List (Int × Int)} {R : Result → Shared → Prop} (hh : A.handled = none) (hl : LsG g l vs) (hp : PR g vs ps) (hz : ps.length ≤ sizeLine)
    (W : ∀ A : Around, A.handled = none → Walks Pw w A I [I, l] [I] vs.length (fun i v => vs[i]? = some v) (fun i (h : Heap) => h.IsListIter I l i ∧ h.IsList l vs.toArray)) (n : Nat) :
    ∀ i o oi h tk, n = vs.length - i → i ≤ vs.length → St g0 fr g L m (((D, o) :: mu) ++ [(I, oi)]) h → DO (intKind Pw w) o (puts [] (ps.take i)) → h.IsListIter I l i ∧ h.IsList l vs.toArray →
      (∀ o h' tk', DO (intKind Pw w) o (puts [] ps) → St g0 fr g L m ((D, o) :: mu) h' → R (.ok (.ret .none)) { s with heap := h', toks := tk' }) →
      codeAny (model Pw w) A (.builtin "dict.update.loop" ⟨[.ref D, .ref I, rawInt (i : Int), .none], []⟩) R { s with heap := h, toks := tk } := by
  have zl := hp.len
  induction n with
  | zero =>
    intro i o oi h tk hn hi S hD st hQ
    have hi' : i = vs.length := by exact om_54 hn hi
    subst hi'
    refine codeAny_builtin en_dict_loop ?_
    unfold Builtin.«dict.update.loop»
    show wpAny _ _ (pyNext (.ref I) >>= _) _ _ _
    refine wpAny_bind ((W _ (by exact hh)).done _ _ _ st fun h' tk' hk => ?_)
    show wpAny _ _ (Builtin.Dict.addKeywords D [] >>= _) _ _ _
    refine wpAny_bind (wpAny_pure (wpAny_pure ?_))
    refine hQ o h' tk' ?_ ?_
    · rw [zl, List.take_of_length_le (Nat.le_refl _)] at hD; exact hD
    · have S0 := S.left
      have hI : (I, oi) ∈ ((D, o) :: mu) ++ [(I, oi)] := by simp
      have nd := S.nd
      rw [List.map_append] at nd
      refine ⟨⟨fun b o q => hk b o (fun hm => ?_) (S.gr.frm b o q), S.gr.le, fun b o q => hk b o (fun hm => ?_) (S.gr.im b o q), S.gr.new⟩, S.ns.at' (fun o q => hk _ o (fun hm => ?_) q), fun p hp => hk _ _ (fun hm => ?_) (S0.mt p hp), S0.gL, S0.fL, S0.gm, S0.fm, S0.mL, S0.nd⟩
      · rw [List.mem_singleton.mp hm] at q; have := S.fm _ hI; dsimp only at this; rw [q] at this; cases this
      · rw [List.mem_singleton.mp hm] at q; have := S.gm _ hI; dsimp only at this; rw [q] at this; cases this
      · exact S.mL _ hI (List.mem_singleton.mp hm).symm
      · exact (List.nodup_append.mp nd).2.2 p.1 (List.mem_map_of_mem hp) p.1 (by rw [List.mem_singleton.mp hm]; exact .head _) rfl
  | succ n ih =>
    intro i o oi h tk hn hi S hD st hQ
    have hlt : i < vs.length := by exact om_55 hn
    refine codeAny_builtin en_dict_loop ?_
    unfold Builtin.«dict.update.loop»
    show wpAny _ _ (pyNext (.ref I) >>= _) _ _ _
    refine wpAny_bind ((W _ (by exact hh)).item i _ _ _ hlt st fun v h₁ tk₁ hPv hst₁ hk₁ => ?_)
    obtain ⟨a, p, t, u, hpi, rfl, hT⟩ := hp.get hPv
    obtain ⟨o1, ho1, _⟩ := id hst₁.1
    have S₁ := S.walk (its' := [(I, o1)]) rfl (by intro p hp; rw [List.mem_singleton.mp hp]; exact ho1) (fun b o hb => hk₁ b o (by simpa using hb))
    obtain ⟨kvs, hd, hkv⟩ := hD
    have zk := hkv.len
    have zp := puts_len [] (ps.take i)
    rw [List.length_take, List.length_nil] at zp
    have hDo : h₁.DictOf (intKind Pw w) D kvs := Heap.dictOf_iff.mpr ⟨o, S₁.mt _ (.head _), hd⟩
    have hTt := hT.at S₁.le
    refine wpAny_bind (wpAny_holding (wpAny_bind (wpAny_tryCatch ?_)))
    unfold Builtin.Dict.pairItems
    have hT1 : ({ s with heap := h₁, toks := tk₁ } : Shared).TypeIs (.ref a) "tuple" := by
      obtain ⟨o', e1, e2, _⟩ := hTt; exact ⟨o', e1, e2⟩
    have hTt' := hTt
    obtain ⟨o', e1, e2, n', e3⟩ := hTt'
    refine wpAny_bind (wpAny_typeOf hT1 ?_)
    rw [if_pos (by decide)]
    refine wpAny_bind (wpAny_seqItems e1 e3 (wpAny_pure ?_))
    simp only [Option.getD_some]
    refine wpAny_holding (wpAny_dictSet_pairs (kvs := kvs) (k := p.1) (intKind_is _ _ _ _) hDo (fun h₂ hd₂ hs₂ => ?_) (by exact om_56 hz zk zp))
    obtain ⟨o2, ho2, hd2⟩ := Heap.dictOf_iff.mp hd₂
    have S₂ := S₁.upd UpL.here hs₂ ho2
    refine wpAny_pure ⟨qt_dict_loop _, ?_⟩
    have e4 : rawInt ((i : Int) + 1) = rawInt ((i + 1 : Nat) : Int) := by push_cast; rfl
    rw [e4]
    refine ih (i + 1) o2 o1 h₂ _ (by exact om_57 hn) (by exact om_6 hlt) S₂ ⟨_, hd2, ?_⟩ ((W A hh).frame _ _ _ hst₁ fun b hb o q => ?_) hQ
    · rw [take_one hpi]
      simp only [puts, List.foldl_append, List.foldl_cons, List.foldl_nil]
      exact hkv.put _ _ _
    · rcases List.mem_cons.mp hb with rfl | hb
      · have := S₂.mt (b, o1) (by simp); rw [ho1] at q; cases q; exact this
      · rw [List.mem_singleton.mp hb] at q ⊢
        obtain ⟨c, hlc⟩ := hl
        have := S₁.le _ _ hlc; rw [this] at q; cases q
        exact S₂.le _ _ hlc

theorem notModsNew (B : Bs w g0) (S : St g0 fr g L m mu s.heap) : (s.heap.objs.size == sysModules) = false := by
  obtain ⟨mg, mb, H0, T, l, _⟩ := B.t
  obtain ⟨o, _, _, e, _⟩ := T.g
  have h1 := Heap.lt_size (S.le _ _ (S.le0 _ _ (l _ _ e)))
  have h2 : sysModules < mainGlobals := by decide
  cases q : s.heap.objs.size == sysModules with
  | false => rfl
  | true => have := eq_of_beq q; exact absurd (Nat.lt_trans h2 h1) (by rw [this]; exact Nat.lt_irrefl _)
theorem rDictPairs {ps : List (Int × Int)} {Q : Value → Shared → Prop} (hh : A.handled = none) (B : Bs w g0) (S : St g0 fr g L m mu s.heap) (hl : LsG g l vs) (hp : PR g vs ps) (hz : ps.length ≤ sizeLine)
    (h : ∀ D o h' tk, (D == sysModules) = false → DO (intKind Pw w) o (puts [] ps) → St g0 fr g L m ((D, o) :: mu) h' → Q (.ref D) { s with heap := h', toks := tk }) :
    wpAny (model Pw w) A (call (.type "dict") [.ref l]) Q E s := by
  have zl := hp.len
  refine callType_codes (Q₁ := fun obj s₁ => obj = .ref s.heap.objs.size ∧ s₁ = { s with heap := s.heap.push { cls := .type "dict", data := .dict #[] } }) F.kt_called_dict (F.kt_typeCall_dict_1 _) F.entry_dict_init (kt_code_dict_new _ ⟨rfl, rfl⟩) ?_
  rintro obj s₁ ⟨rfl, rfl⟩
  have hnew : (s.heap.push { cls := .type "dict", data := .dict #[] }).DictOf (intKind Pw w) s.heap.objs.size [] := Heap.DictOf.new s.heap
  obtain ⟨o0, ho0, hd0⟩ := Heap.dictOf_iff.mp hnew
  have S1 := S.addM (fun b o e => Heap.get?_push_of_some { cls := .type "dict", data := .dict #[] } e) (none_size _) ho0
  refine ⟨hnew.typeIs, F.args_dict_init_2 _ _, ?_⟩
  unfold Builtin.«dict.__init__»
  refine wpAny_bind ?_
  unfold Builtin.Dict.selfAndRest
  refine wpAny_bind (wpAny_notOrdered_dict hnew.typeIs ?_)
  show wpAny _ _ (pure (s.heap.objs.size, [Value.ref l])) _ _ _
  refine wpAny_pure ?_
  show wpAny _ _ (Builtin.Dict.updateFrom "dict.__init__" s.heap.objs.size (.ref l) [] .none) _ _ _
  unfold Builtin.Dict.updateFrom
  have hL := hl.at S1.le
  obtain ⟨c, hlc⟩ := id hl
  refine wpAny_bind (wpAny_typeOf hL.typeIs ?_)
  rw [if_pos (by decide)]
  refine wpAny_bind (miss_keys (S1.le _ _ hlc) (by exact hh) fun h' tk hk => ?_)
  have S2 := S1.keep hk
  rw [show (none : Option Value).isNone = true from rfl, if_pos rfl]
  refine wpAny_bind (wpAny_rule ?_)
  refine wpAny_bind (listIt (by exact hh) S2 hl fun I oi h'' W hlive hfp S3 st => ?_)
  have W' : ∀ A : Around, A.handled = none → Walks Pw w A I [I, l] [I] vs.length (fun i v => vs[i]? = some v) (fun i (h : Heap) => h.IsListIter I l i ∧ h.IsList l vs.toArray) := fun A hA => by
    have W := Walks.list (prog := Pw) (w := w) hA I l (by rintro rfl; have := S3.gm (l, oi) (by simp); rw [hlc] at this; cases this) vs.toArray
    simp only [List.size_toArray, List.getElem?_toArray] at W
    exact W
  refine wpAny_pure ⟨qt_dict_loop _, ?_⟩
  exact dict_loop (ps := ps) (s := { s with heap := h'', toks := tk }) (by exact hh) hl hp hz W' (vs.length - 0) 0 o0 oi h'' tk rfl (Nat.zero_le _) S3 ⟨_, hd0, .nil⟩ st fun o h3 tk3 hD S4 => ⟨rfl, h _ o h3 tk3 (notModsNew B S) hD S4⟩

theorem rPut {K : Type} [DecidableEq K] {knd : KeyKind Pw w K} {d : Addr} {o : Obj} {ps : List (K × Int)} {key : Value} {x : K} {y : Int} {t : Tok} {mu' : Obj → List (Addr × Obj)} {Q : Unit → Shared → Prop} (S : St g0 fr g L m mu s.heap) (hd : DO knd o ps) (U : ∀ o', UpL d o o' mu (mu' o')) (hkey : knd.is x key = true) (hz : ps.length ≤ sizeLine)
    (h : ∀ h' o' tb, DO knd o' (put ps x y) → St g0 fr g L m (mu' o') h' → Q () { s with heap := h', toks := tb }) : wpAny (model Pw w) A (setItem (.ref d) key (.int y t)) Q E s := by
  obtain ⟨kvs, hk, hv⟩ := hd
  refine wpAny_setItem_pairs (kvs := kvs) hkey (Heap.dictOf_iff.mpr ⟨o, S.mt _ (U o).mem, hk⟩) (fun h' hm hs => ?_) (by rw [hv.len]; exact hz)
  obtain ⟨o', ho', hd'⟩ := Heap.dictOf_iff.mp hm
  exact h h' o' _ ⟨_, hd', hv.put _ _ _⟩ (S.upd (U o') hs ho')
theorem rSetAt {i : Nat} {t : Tok} {Q : Unit → Shared → Prop} (S : St g0 fr g L m mu s.heap) (U : UpL l (lsOf vs k) (lsOf (vs.set i v) k) mu mu') (hi : i < vs.length) (hz : vs.length ≤ sizeLine)
    (h : ∀ h', St g0 fr g L m mu' h' → Q () { s with heap := h' }) : wpAny (model Pw w) A (setItem (.ref l) (.int (i : Int) t) v) Q E s := by
  have hz2 := sizeLine_eq
  have hm := S.mt _ U.mem
  refine ki_setAt (items := vs.toArray) (n := k) hm (by exact om_58) (by exact om_59 hi hz hz2) (by simpa using hi) (h _ (S.upd U (Heap.SameBut.update ..) ?_))
  have q := PySem.IsL.update hm (·.setIfInBounds ((i : Int)).toNat v)
  simp at q
  simpa using q
end


-- part S9
noncomputable def roots (ts : List T) : List (Int × Int) := (ts.map (fun t => (t.n, (0 : Int)))).filter fun p => decide (0 < p.1)
noncomputable def kidsOf (n : Int) (ks : List T) : List (Int × Int) := (ks.map (fun k => (k.n, n))).filter fun p => decide (0 < p.1)
noncomputable def kidsAt (t : T) : List (Int × Int) := kidsOf t.n t.ks
noncomputable def parN (ts : List T) : List (Int × Int) := puts [] (roots ts ++ (pres ts).flatMap kidsAt)
theorem roots_len (ts : List T) : (roots ts).length ≤ ts.length := by
  unfold roots
  exact Nat.le_trans (List.length_filter_le _ _) (by simp)
theorem kidsOf_len (n : Int) (ks : List T) : (kidsOf n ks).length ≤ ks.length := by
  unfold kidsOf
  exact Nat.le_trans (List.length_filter_le _ _) (by simp)
mutual
theorem kidsPre_len : ∀ t : T, (t.pre.flatMap kidsAt).length + 1 ≤ t.size
  | .mk n ks => by
    have h1 := kidsPres_len ks
    have h2 := kidsOf_len n ks
    simp only [T.pre, List.flatMap_cons, List.length_append, T.size, kidsAt, T.n, T.ks] at h1 ⊢
    exact om_60 h1 h2
theorem kidsPres_len : ∀ ts : List T, ((pres ts).flatMap kidsAt).length + ts.length ≤ sizes ts
  | [] => by simp [pres, sizes]
  | t :: ts => by
    have h1 := kidsPre_len t
    have h2 := kidsPres_len ts
    simp only [pres, List.flatMap_append, List.length_append, sizes, List.length_cons] at h1 h2 ⊢
    exact om_61 h1 h2
end
mutual
theorem pre_ks : ∀ (t u : T), u ∈ t.pre → sizes u.ks < t.size
  | .mk n ks, u, hu => by
    simp only [T.pre, List.mem_cons] at hu
    rcases hu with rfl | hu
    · simp only [T.ks, T.size]; exact om_62
    · have := pres_ks ks u hu
      simp only [T.size]; exact om_63 this
theorem pres_ks : ∀ (ts : List T) (u : T), u ∈ pres ts → sizes u.ks ≤ sizes ts
  | [], u, hu => by simp [pres] at hu
  | t :: ts, u, hu => by
    simp only [pres, List.mem_append] at hu
    rcases hu with hu | hu
    · have := pre_ks t u hu
      simp only [sizes]; exact om_64 this
    · have := pres_ks ts u hu
      simp only [sizes]; exact om_39 this
end
theorem puts_app {K : Type} [DecidableEq K] (acc a b : List (K × Int)) : puts acc (a ++ b) = puts (puts acc a) b := by simp [puts]
theorem puts_one {K : Type} [DecidableEq K] (acc : List (K × Int)) (k : K) (y : Int) : puts acc [(k, y)] = put acc k y := rfl

theorem parent_numbers_spec {w : World} {A : Around} {E : Value → Shared → Prop} {s : Shared} {Q : Value → Shared → Prop} {g : G} {l : Addr} {vs : List Value} {ts : List T} (R : Room A 30 120) (B : Bs w g) (hg : Le g s.heap.get?)
    (hl : LsG g l vs) (hv : NTs w g vs ts) (hz : sizes ts ≤ 1000)
    (hQ : ∀ r o g' h' tb, Grow g s.heap.get? g' h' → g' r = some o → (r == sysModules) = false → DO (intKind Pw w) o (parN ts) → Q (.ref r) { s with heap := h', toks := tb }) : wpAny (model Pw w) A (call (.ref 57) [.ref l]) Q E s := by
  refine enterM (mu := []) (fr := s.heap.get?) (binds := [(Str.ofString "nodes", .ref l)]) R B hg (Le.refl _) (fun _ h => nomatch h) List.nodup_nil (by k_is) (by k_is) (BindsTo.of_eq rfl) (locs rfl) (fun L h₁ S => ?_)
  have zl := hv.len
  have zs := len_sizes ts
  have zz : (16777216 : Nat) = sizeLine := sizeLine_eq.symm
  have hd1 := R.hd
  refine wpAny_execs_cons ?_; refine wpAny_Assign_Name ?_; refine wpAny_Call_NameR ?_
  refine ldB (by assumption) (by assumption) (bnAll _ rfl) (btAll rfl) (by decide) ?_; refine PyProof.Rows.callWith_type1 ?_; refine wpAny_items_cons ?_
  try dsimp only
  refine rCompE (cl := []) ?_ rfl
  refine ldL (by assumption) (by first | rfl | assumption) ?_; try dsimp only
  refine compLE hd1 S hl (by exact om_65 hz zl zs zz) (J := fun i g' ys => PR g' ys (roots (ts.take i))) .nil ?_ ?_
  · intro h0 i v g' ys C mc Y h tk KY KN hKY hKN hi hvi hJ hys hle hm S
    obtain ⟨t, ht, hN⟩ := hv.get hvi
    dsimp only
    cases hN with
    | @mk a l n vk ks hN hL hK =>
    have hN := hN.mono hle
    refine wpAny_tests_one ?_
    refine wpAny_isTrue_Compare1 ?_; refine Attribute_Name_ ?_; refine ldL (by assumption) (by first | rfl | assumption) ?_; try dsimp only
    refine rNumber B S hN fun tn tb => ?_
    refine rInt fun _ _ => ?_; refine gt_int ?_; refine wpAny_truthy_bool ?_; try dsimp only
    have e1 : roots (ts.take (i + 1)) = roots (ts.take i) ++ (if 0 < n then [(n, 0)] else []) := by
      rw [take_one ht]; unfold roots; rw [List.map_append, List.filter_append]; congr 1
      by_cases hn : 0 < n <;> simp [T.n, hn]
    by_cases hn : 0 < n
    · rw [if_pos (by simpa using hn)]
      refine Tuple_ ?_; refine wpAny_items_cons ?_; refine Attribute_Name_ ?_; refine ldL (by assumption) (by first | rfl | assumption) ?_; try dsimp only
      refine rNumber B S hN fun tn tb => ?_
      refine wpAny_items_cons ?_; refine rInt fun _ _ => ?_; refine wpAny_items_nil ?_; try dsimp only
      refine rNewTuple S (Nat.le_of_ble_eq_true rfl) fun x h' g1 le1 ht1 S => ?_
      exact hKY _ _ _ _ _ le1 S (by dsimp only; rw [e1, if_pos hn]; exact (hJ.mono le1).app (.cons ht1 .nil))
    · rw [if_neg (by simpa using hn)]
      exact hKN _ _ _ _ (Le.refl _) S (by dsimp only; rw [e1, if_neg hn, List.append_nil]; exact hJ)
  intro D0 g1 ys k h tk hJ le1 S
  rw [zl, List.take_of_length_le (Nat.le_refl _)] at hJ
  obtain ⟨g2, le2, hl2, S⟩ := S.frz
  have le2 := le1.trans le2
  have zr := roots_len ts
  refine wpAny_items_nil ?_; try dsimp only
  refine rDictPairs hd1 B S hl2 (hJ.mono (by assumption)) (by exact om_66 hz zs zz zr) fun D o h' tk nm hD S => ?_
  refine stL (by assumption) fun _ _ => ?_; refine wpAny_execs_cons ?_; refine wpAny_For ?_; refine wpAny_Call_NameR ?_
  refine ldG (by assumption) (by assumption) (gnAll _ rfl) ?_; refine callWith_K (St.kin (by assumption) (by assumption)) (kpAll _ _ (by decide)) ?_
  refine wpAny_items_cons ?_; refine ldL (by assumption) (by first | rfl | assumption) ?_; refine wpAny_items_nil ?_
  refine keepB (by assumption) (by assumption) ?_; try dsimp only
  rename St _ _ _ _ _ _ _ => S
  refine all_nodes_spec (R.deeper (by exact om_36) (by exact om_37)) (B.mono le2) S.le (hl.mono le2) (hv.mono le2) hz fun r vs' g3 h' tb X hl3 hv3 => ?_
  have S := S.call X
  have le3 := le2.trans X.le
  have z1 := hv3.len
  have z2 := pres_len ts
  refine forL (J := fun i g' m' mu' => ∃ o, mu' = [(D, o)] ∧ m' (Str.ofString "found") = some (.ref D) ∧ DO (intKind Pw w) o (puts [] (roots ts ++ ((pres ts).take i).flatMap kidsAt))) hd1 S hl3 ⟨o, rfl, rfl, by simpa using hD⟩ ?_ ?_
  · rintro i v g' m' _ X h tk KK hKK hvi ⟨o, rfl, hm1, hD⟩ hle S
    obtain ⟨t, ht, hN⟩ := hv3.get hvi
    have le4 := le3.trans hle
    cases hN with
    | @mk a l n vk ks hN hL hK =>
    have hN := hN.mono hle
    refine PyProof.Rows.assign_Name ?_; refine stL (by assumption) fun _ _ => ?_; refine wpAny_execs_cons ?_; refine wpAny_For ?_; refine Attribute_Name_ ?_
    refine ldL (by assumption) (by first | rfl | assumption) ?_; try dsimp only
    rename St _ _ _ _ _ _ _ => S
    refine rKids B S hN fun tb => ?_
    refine forL (J := fun j g'' m'' mu'' => ∃ o', mu'' = (D, o') :: X ∧ m'' (Str.ofString "found") = some (.ref D) ∧ m'' (Str.ofString "node") = some (.ref a) ∧ DO (intKind Pw w) o' (puts (puts [] (roots ts ++ ((pres ts).take i).flatMap kidsAt)) (kidsOf n (ks.take j)))) hd1 S (hL.mono hle) ⟨o, rfl, hm1, rfl, hD⟩ ?_ ?_
    · intro j v2 g'' m'' mq1 X2 h tk KK hKK hvj hJJ hle2 S
      refine hide fun PP kP => ?_
      obtain ⟨o', rfl, hm2, hm3, hD⟩ := hJJ
      refine kP ?_
      clear kP PP
      obtain ⟨u, hu, hNu⟩ := hK.get hvj
      cases hNu with
      | @mk b lb nb vkb kbs hNb hLb hKb =>
      have hNb := hNb.mono (hle.trans hle2)
      refine PyProof.Rows.assign_Name ?_; refine stL (by assumption) fun _ _ => ?_; refine wpAny_execs_cons ?_; refine wpAny_If ?_; refine wpAny_isTrue_Compare1 ?_
      refine Attribute_Name_ ?_; refine ldL (by assumption) (by first | rfl | assumption) ?_; try dsimp only
      rename St _ _ _ _ _ _ _ => S
      refine rNumber B S hNb fun tn tb => ?_
      refine rInt fun _ _ => ?_; refine gt_int ?_; refine wpAny_truthy_bool ?_; try dsimp only
      have e1 : kidsOf n (ks.take (j + 1)) = kidsOf n (ks.take j) ++ (if 0 < nb then [(nb, n)] else []) := by
        rw [take_one hu]; unfold kidsOf; rw [List.map_append, List.filter_append]; congr 1
        by_cases hn : 0 < nb <;> simp [T.n, hn]
      by_cases hn : 0 < nb
      · rw [if_pos (by simpa using hn)]
        refine wpAny_execs_cons ?_; refine wpAny_Assign_Subscript ?_; refine Attribute_Name_ ?_; refine ldL (by assumption) (by first | rfl | assumption) ?_
        try dsimp only
        refine rNumber B S (hN.mono hle2) fun tn tb => ?_
        refine ldL (by assumption) (by first | rfl | assumption) ?_; refine Attribute_Name_ ?_; refine ldL (by assumption) (by first | rfl | assumption) ?_
        try dsimp only
        refine rNumber B S hNb fun tn2 tb => ?_
        refine rPut S hD (fun _ => .here) (intKind_is _ _ _ _) ?_ fun h' o2 tb hD S => ?_
        · have := puts_len (puts [] (roots ts ++ ((pres ts).take i).flatMap kidsAt)) (kidsOf n (ks.take j))
          have := puts_len [] (roots ts ++ ((pres ts).take i).flatMap kidsAt)
          have h3 := kidsOf_len n (ks.take j)
          have h4 := kidsPres_len ts
          have h5 : (((pres ts).take i).flatMap kidsAt).length ≤ ((pres ts).flatMap kidsAt).length := by
            have : (pres ts).flatMap kidsAt = ((pres ts).take i).flatMap kidsAt ++ ((pres ts).drop i).flatMap kidsAt := by rw [← List.flatMap_append, List.take_append_drop]
            rw [this, List.length_append]; exact om_67
          have h6 : ks.length ≤ 1000 := by
            have h7 := pres_ks ts (.mk n ks) (List.mem_of_getElem? ht)
            have h8 := len_sizes ks
            simp only [T.ks] at h7
            exact om_68 hz h7 h8
          simp only [List.length_append, List.length_take, List.length_nil] at *
          exact om_69 hz zz zr (by assumption) h4 h5 h6 this h3
        refine wpAny_execs_nil ?_; refine wpAny_execs_nil ?_; try dsimp only
        refine hKK g'' (fun y => if y = Str.ofString "kid" then some (.ref b) else m'' y) ((D, o2) :: X) _ _ (Le.refl _) S ⟨o2, rfl, hm2, hm3, ?_⟩
        rw [e1, if_pos hn, puts_app]; exact hD
      · rw [if_neg (by simpa using hn)]
        refine wpAny_execs_nil ?_; refine wpAny_execs_nil ?_; try dsimp only
        exact hKK g'' (fun y => if y = Str.ofString "kid" then some (.ref b) else m'' y) ((D, o') :: X) _ _ (Le.refl _) S ⟨o', rfl, hm2, hm3, by rw [e1, if_neg hn, List.append_nil]; exact hD⟩
    · intro g'' m'' mq1 h tk hJJ hle2 S
      refine hide fun PP kP => ?_
      obtain ⟨o', rfl, hm2, hm3, hD⟩ := hJJ
      refine kP ?_
      clear kP PP
      refine wpAny_execs_nil ?_; try dsimp only
      refine hKK g'' m'' [(D, o')] _ _ hle2 S ⟨o', rfl, hm2, ?_⟩
      rw [take_one ht, List.flatMap_append, ← List.append_assoc, puts_app]
      rw [hK.len, List.take_of_length_le (Nat.le_refl _)] at hD
      simp only [List.flatMap_cons, List.flatMap_nil, List.append_nil]
      exact hD
  · rintro g' m' _ h tk ⟨o, rfl, hm1, hD⟩ hle S
    rw [z1, List.take_of_length_le (Nat.le_refl _)] at hD
    refine wpAny_execs_cons ?_; refine wpAny_Return_some ?_; refine ldL (by assumption) (by first | rfl | assumption) ?_; try dsimp only
    have S' := S.freeze
    exact hQ _ _ _ _ _ S'.gr (ins_self _ _ _) nm hD


-- part F11
section
variable {w : World} {A : Around} {E : Value → Shared → Prop} {s : Shared} {env : Env} {g0 fr g : G} {L C : Addr} {m mc : Str → Option Value} {mu mu' : List (Addr × Obj)} {v : Value} {pos : Pos} {h h' : Heap} {vs ws : List Value} {k k2 : Nat} {l b r : Addr} {oL : Obj}

/-- the iterator's own objects are let go -/
theorem St.shed {its : List (Addr × Obj)} (S : St g0 fr g L m (mu ++ its) h) (hk : ∀ b o, b ∉ its.map Prod.fst → h.get? b = some o → h'.get? b = some o) : St g0 fr g L m mu h' := by
  have nodup := S.nd
  rw [List.map_append] at nodup
  have hin : ∀ b, b ∈ its.map Prod.fst → ∃ o, (b, o) ∈ mu ++ its := fun b hb => by
    obtain ⟨p, hp, rfl⟩ := List.mem_map.mp hb; exact ⟨p.2, List.mem_append.mpr (.inr hp)⟩
  have S0 := S.left
  refine ⟨⟨fun b o q => hk b o (fun hm => ?_) (S.gr.frm b o q), S.gr.le, fun b o q => hk b o (fun hm => ?_) (S.gr.im b o q), S.gr.new⟩, S.ns.at' (fun o q => hk _ o (fun hm => ?_) q), fun p hp => hk _ _ (fun hm => ?_) (S0.mt p hp), S0.gL, S0.fL, S0.gm, S0.fm, S0.mL, S0.nd⟩
  · obtain ⟨o', ho'⟩ := hin b hm; have := S.fm _ ho'; dsimp only at this; rw [q] at this; cases this
  · obtain ⟨o', ho'⟩ := hin b hm; have := S.gm _ ho'; dsimp only at this; rw [q] at this; cases this
  · obtain ⟨o', ho'⟩ := hin _ hm; exact S.mL _ ho' rfl
  · exact (List.nodup_append.mp nodup).2.2 p.1 (List.mem_map_of_mem hp) p.1 hm rfl

theorem forE {xi xv : Str} {pi pv pt : Pos} {kk} {body : List Stmt} {J : Nat → G → (Str → Option Value) → List (Addr × Obj) → Prop} {Q : Flow → Shared → Prop}
    (hh : A.handled = none) (S : St g0 fr g env.locals m mu s.heap) (hl : LsG g l vs) (h0 : J 0 g m mu)
    (turn : ∀ i t v g' m' mu' X h tk (KK : Flow → Shared → Prop), (∀ g'' m'' mu'' h' tk', Le g' g'' → St g0 fr g'' env.locals m'' (mu'' ++ X) h' → J (i + 1) g'' m'' mu'' → KK .next { s with heap := h', toks := tk' }) → vs[i]? = some v → J i g' m' mu' → Le g g' → St g0 fr g' env.locals (fun y => if y = xv then some v else if y = xi then some (.int (i : Nat) t) else m' y) (mu' ++ X) h →
      wpAny (model Pw w) A (execs body env) KK (fun _ _ => False) { s with heap := h, toks := tk })
    (done : ∀ g' m' mu' h tk, J vs.length g' m' mu' → Le g g' → St g0 fr g' env.locals m' mu' h → Q .next { s with heap := h, toks := tk })
    (hxi : env.kindOf xi = some .local := by rfl) (hxv : env.kindOf xv = some .local := by rfl) (hke : env.scope.kind = .function := by rfl) :
    wpAny (model Pw w) A (call (.type "enumerate") [.ref l]) (fun e s₁ => wpAny (model Pw w) A (pyIter e) (fun it s₂ => codeAny (model Pw w) A (.forLoop (.Tuple [.Name xi pi, .Name xv pv] kk pt) it body [] env) (fun r s' => match r with | .ok f => Q f s' | .error e => cameBackBy (model Pw w) A env E e s') s₂) E s₁) E s := by
  obtain ⟨c, hlc⟩ := id hl
  have hl0 := S.le _ _ hlc
  have hp : (env.scope.kind == .class || (env.scope.kind == .module && env.locals != env.globals)) = false := by rw [hke]; rfl
  have S1 := S.addM (a := s.heap.objs.size) (fun b o e => Heap.get?_push_of_some { cls := .type "list_iterator", data := .fields #[.ref l, .int 0 0] } e) (none_size _) (Heap.get?_push_size _ rfl)
  refine call_enumerate_list (hl.at S.le) fun h₁ he hit hsz hk => ?_
  have hnew : s.heap.get? (s.heap.objs.size + 1) = none := by
    cases e : s.heap.get? (s.heap.objs.size + 1) with
    | none => rfl
    | some o => exact absurd (Nat.lt_of_succ_lt (Heap.lt_size e)) (Nat.lt_irrefl _)
  obtain ⟨oi, hoi, _⟩ := id hit
  have S2 : St g0 fr g env.locals m ((s.heap.objs.size, oi) :: mu) h₁ := S.addM hk (none_size _) hoi
  have hel : s.heap.objs.size + 1 ≠ env.locals := by obtain ⟨o, e⟩ := ns_get S.ns; exact fun q => by rw [← q, hnew] at e; cases e
  have S3 : St g0 fr g env.locals m ((s.heap.objs.size + 1, { cls := .type "enumerate", dict := none, data := .fields #[.none, .bool false, .ref s.heap.objs.size, rawInt 0, .none, .none], slots := #[] }) :: (s.heap.objs.size, oi) :: mu) h₁ := by
    have hgn := S.le.none hnew
    refine ⟨S2.gr, S2.ns, ?_, S2.gL, S2.fL, ?_, ?_, ?_, ?_⟩
    · intro p hp; rcases List.mem_cons.mp hp with rfl | hp
      · exact he
      · exact S2.mt p hp
    · intro p hp; rcases List.mem_cons.mp hp with rfl | hp
      · exact hgn
      · exact S2.gm p hp
    · intro p hp; rcases List.mem_cons.mp hp with rfl | hp
      · exact S.gr.frm.none hnew
      · exact S2.fm p hp
    · intro p hp; rcases List.mem_cons.mp hp with rfl | hp
      · exact hel
      · exact S2.mL p hp
    · rw [List.map_cons, List.nodup_cons]
      refine ⟨fun hm => ?_, S2.nd⟩
      obtain ⟨p, hp, e⟩ := List.mem_map.mp hm
      rcases List.mem_cons.mp hp with rfl | hp
      · dsimp only at e; exact absurd e.symm (Nat.succ_ne_self _)
      · have := S.mt p hp; dsimp only at e; rw [e, hnew] at this; cases this
  have hsz0 := Heap.lt_size hl0
  have W := WalksT.enumerate (prog := Pw) (w := w) hh (s.heap.objs.size + 1) s.heap.objs.size l (Nat.succ_ne_self _) (Nat.ne_of_lt (Nat.lt_succ_of_lt hsz0)) (Nat.ne_of_lt hsz0) vs.toArray
  simp only [List.size_toArray, List.getElem?_toArray] at W
  generalize s.heap.objs.size + 1 = e at *
  generalize s.heap.objs.size = I at *
  refine wpAny_pyIter_enum he ?_
  have S4 : St g0 fr g env.locals m (mu ++ [(e, _), (I, oi)]) h₁ := S3.perm (List.perm_append_comm (l₁ := [_, _]) (l₂ := mu))
  refine codeAny_forLoop_any (fun k s' => ∃ i g' m' mu' its h tk, s' = { s with heap := h, toks := tk } ∧ ((∃ old, IsEnum h e I (i : Nat) old) ∧ h.IsListIter I l i ∧ h.IsList l vs.toArray) ∧ its.map Prod.fst = [e, I] ∧ Le g g' ∧ St g0 fr g' env.locals m' (mu' ++ its) h ∧ J i g' m' mu' ∧ i ≤ vs.length ∧ k = vs.length + 1 - i) ?_ (vs.length + 1)
    ⟨0, g, m, mu, _, h₁, s.toks, rfl, ⟨⟨_, he⟩, hit, ⟨_, hk _ _ hl0, rfl, _, rfl⟩⟩, rfl, Le.refl _, S4, h0, Nat.zero_le _, rfl⟩
  intro k sx hx
  refine hide fun PP kP => ?_
  obtain ⟨i, g', m', mu', its, h, tk, rfl, hst, hi1, hle, S', hJ, hi, rfl⟩ := hx
  refine kP ?_
  clear kP PP
  by_cases hlt : i < vs.length
  · refine W.item i _ _ _ hlt hst fun T vals h₂ tk₂ hP hT0 hT hM hk₂ => ?_
    obtain ⟨t, x, hx, rfl⟩ := hP
    obtain ⟨⟨y, hM1⟩, ⟨oi2, hM2, _⟩, _⟩ := id hM
    have S₁ := S'.walk (its' := [(e, _), (I, oi2)]) hi1.symm (by
      intro p hp; rcases List.mem_cons.mp hp with rfl | hp
      · exact hM1
      · rw [List.mem_singleton.mp hp]; exact hM2) (fun b o hb => hk₂ b o (hi1 ▸ hb))
    refine W.go _ _ _ i T _ _ _ hM fun h₃ hst₃ hk₃ => ?_
    obtain ⟨⟨y3, hE3⟩, ⟨oi3, hI3, _⟩, _⟩ := id hst₃
    have S₂ := S₁.walk (its' := [(e, { cls := .type "enumerate", dict := none, data := .fields #[.none, .bool false, .ref I, rawInt ((i + 1 : Nat) : Int), .none, y3], slots := #[] }), (I, oi3)]) rfl (by
      intro p hp; rcases List.mem_cons.mp hp with rfl | hp
      · exact hE3
      · rw [List.mem_singleton.mp hp]; exact hI3) (fun b o hb => hk₃ b o hb)
    have hTa := W.apart _ _ _ hM
    have hT3 : h₃.IsTuple T #[.int (i : Nat) t, x] := by
      obtain ⟨o, e1, e2⟩ := hT; exact ⟨o, hk₃ T o hTa e1, e2⟩
    refine wpAny_assign_Tuple hh hT3 rfl rfl fun h₄ hx₄ => ?_
    have S₃ := S₂.keep (h' := h₄) fun b o q => hx₄ b o (Nat.ne_of_lt (Heap.lt_size q)) q
    show wpAny _ A (do holding [x] (assign (.Name xi pi) env (.int i t)); do holding [] (assign (.Name xv pv) env x); pure ()) _ _ _
    refine wpAny_bind (wpAny_holding (wpAny_assign_Name (wpAny_storeName_local hxi S₃.ns (fun h₅ hn₅ hs₅ => ?_) hp)))
    have S₄ := S₃.store hn₅ hs₅
    refine wpAny_bind (wpAny_holding (wpAny_assign_Name (wpAny_storeName_local hxv S₄.ns (fun h₆ hn₆ hs₆ => wpAny_pure ?_) hp)))
    have S₅ := S₄.store hn₆ hs₆
    refine wpAny_mono (turn i t x g' m' mu' _ h₆ _ _ (fun g'' m'' mu'' h' tk' hle' S'' hJ' => ?_) hx hJ hle S₅) (fun _ _ q => q) fun _ _ q => q.elim
    refine ⟨vs.length + 1 - (i + 1), by exact om_10 hlt, i + 1, g'', m'', mu'', _, h', tk', rfl, ?_, rfl, hle.trans hle', S'', hJ', hlt, rfl⟩
    refine W.frame _ _ _ hst₃ fun b hb o q => ?_
    rcases List.mem_cons.mp hb with rfl | hb
    · rw [hE3] at q; cases q; exact S''.mt (b, _) (by simp)
    · rcases List.mem_cons.mp hb with rfl | hb
      · rw [hI3] at q; cases q; exact S''.mt (b, _) (by simp)
      · rw [List.mem_singleton.mp hb] at q ⊢
        have := S₂.le _ _ (hle _ _ hlc); rw [this] at q; cases q
        exact S''.le _ _ (hle' _ _ (hle _ _ hlc))
  · have hin : i = vs.length := by exact om_11 hi hlt
    subst hin
    refine W.done _ _ _ hst fun h₂ tk₂ hk₂ => wpAny_execs_nil ?_
    exact done g' m' mu' h₂ tk₂ hJ hle (S'.shed (fun b o hb => hk₂ b o (hi1 ▸ hb)))
end

section
variable {K : Type} [DecidableEq K]
noncomputable def getv : List (K × Int) → K → Option Int
  | [], _ => none
  | (a, y) :: r, k => if a = k then some y else getv r k
theorem KV.getv {kvs : List (K × Value)} {ps : List (K × Int)} (x : KV kvs ps) (k : K) : (Mine.getv ps k = none → valueAt kvs k = none) ∧ ∀ y, Mine.getv ps k = some y → ∃ t, valueAt kvs k = some (.int y t) := by
  induction x with
  | nil => exact ⟨fun _ => rfl, fun y h => nomatch h⟩
  | cons a y t x ih =>
    unfold Mine.getv valueAt
    by_cases ha : a = k
    · simp [ha]
    · simp only [ha, if_false, List.find?_cons, decide_false]
      exact ih
theorem getv_put (ps : List (K × Int)) (k : K) (y : Int) (x : K) : getv (put ps k y) x = if k = x then some y else getv ps x := by
  unfold put
  split
  · rename_i h
    induction ps with
    | nil => simp at h
    | cons p r ih =>
      obtain ⟨a, z⟩ := p
      by_cases ha : a = k
      · subst ha
        simp only [List.map_cons, if_true, getv]
        by_cases hx : a = x
        · simp [hx]
        · simp only [hx, if_false]
          clear ih h
          induction r with
          | nil => rfl
          | cons q r ih2 =>
            obtain ⟨b, z2⟩ := q
            by_cases hb : b = a
            · subst hb; simp only [List.map_cons, if_true, getv, hx, if_false, ih2]
            · simp only [List.map_cons, hb, if_false, getv, ih2]
      · have h' : r.any (fun p => decide (p.1 = k)) = true := by simpa [ha] using h
        simp only [List.map_cons, ha, if_false, getv, ih h']
        by_cases hx : a = x
        · subst hx; simp [Ne.symm ha]
        · simp [hx]
  · rename_i h
    induction ps with
    | nil => simp [getv]
    | cons p r ih =>
      obtain ⟨a, z⟩ := p
      have ha : ¬ a = k := by intro e; simp [e] at h
      have h' : ¬ r.any (fun p => decide (p.1 = k)) = true := by simpa [ha] using h
      simp only [List.cons_append, getv, ih h']
      by_cases hx : a = x
      · subst hx; simp [Ne.symm ha]
      · simp [hx]
end
theorem str_ne (x y : Str) : (x.cps.toList != y.cps.toList) = decide (x ≠ y) := by
  obtain ⟨⟨a⟩⟩ := x; obtain ⟨⟨b⟩⟩ := y
  by_cases h : a = b <;> simp [h]
theorem str_eq (x y : Str) : (x.cps.toList == y.cps.toList) = decide (x = y) := by
  obtain ⟨⟨a⟩⟩ := x; obtain ⟨⟨b⟩⟩ := y
  by_cases h : a = b <;> simp [h]
section
variable {w : World} {A : Around} {E : Value → Shared → Prop} {s : Shared} {env : Env} {g0 fr g : G} {L C : Addr} {m mc : Str → Option Value} {mu mu' : List (Addr × Obj)} {v : Value} {pos : Pos} {h h' : Heap} {vs ws : List Value} {k k2 : Nat} {l b r : Addr} {oL : Obj}
theorem rNeStr {x y : Str} {t u : Tok} {Q : Value → Shared → Prop} (h : Q (.bool (decide (x ≠ y))) s) : wpAny (model Pw w) A (compareOp .NotEq (.str x t) (.str y u)) Q E s := PySem.P.ne_str (by rw [str_ne]; exact h)
theorem rEqStr {x y : Str} {t u : Tok} {Q : Value → Shared → Prop} (h : Q (.bool (decide (x = y))) s) : wpAny (model Pw w) A (compareOp .Eq (.str x t) (.str y u)) Q E s := PySem.P.eq_str (by rw [str_eq]; exact h)
theorem rNewDict {Q : Value → Shared → Prop} (B : Bs w g0) (S : St g0 fr g L m mu s.heap)
    (h : ∀ D o h', (D == sysModules) = false → (∀ {K : Type} [DecidableEq K] (knd : KeyKind Pw w K), o.IsDictOf knd []) → St g0 fr g L m ((D, o) :: mu) h' → Q (.ref D) { s with heap := h' }) : wpAny (model Pw w) A (eval (.Dict [] [] pos) env) Q E s :=
  wpAny_Dict_empty (h _ _ _ (notModsNew B S) (fun knd => ⟨#[], 0, ⟨rfl, rfl, rfl⟩, rfl, fun _ he => by simp at he, Pairs.nil, List.nodup_nil⟩) (S.addM (fun _ _ e => Heap.get?_push_of_some _ e) (none_size _) (Heap.get?_push_size _ rfl)))
theorem rGetD {K : Type} [DecidableEq K] {knd : KeyKind Pw w K} {d : Addr} {o : Obj} {ps : List (K × Int)} {key : Value} {x : K} {y : Int} {Q : Value → Shared → Prop} (hm : s.heap.get? d = some o) (hd : DO knd o ps) (hkey : knd.is x key = true) (hy : getv ps x = some y)
    (h : ∀ t tb, Q (.int y t) { s with toks := tb }) : wpAny (model Pw w) A (getItem (.ref d) key) Q E s := by
  obtain ⟨kvs, hk, hv⟩ := hd
  obtain ⟨t, ht⟩ := (hv.getv x).2 y hy
  have hD : s.heap.DictOf knd d kvs := Heap.dictOf_iff.mpr ⟨o, hm, hk⟩
  exact wpAny_getItem_of hkey hD.mapOf ht (h t _)
theorem rSubD {K : Type} [DecidableEq K] {knd : KeyKind Pw w K} {d : Addr} {o : Obj} {ps : List (K × Int)} {key : Value} {x : K} {y : Int} {Q : Value → Shared → Prop} {value slice : Expr} (hm : s.heap.get? d = some o) (hd : DO knd o ps) (hkey : knd.is x key = true) (hy : getv ps x = some y)
    (h : ∀ t tb, Q (.int y t) { s with toks := tb }) (hs : subscripted slice false (.ref d) key = operate [.ref d, key] (getItem (.ref d) key) := by with_unfolding_all rfl) :
    wpAny (model Pw w) A (subscriptTail value slice (.ref d) key) Q E s := by
  obtain ⟨kvs, hk, hv⟩ := id hd
  have hD : s.heap.DictOf knd d kvs := Heap.dictOf_iff.mpr ⟨o, hm, hk⟩
  exact tail_any hD.typeIs slot_dict_getitem.lookup (rGetD hm hd hkey hy h) hs
theorem rNotInD {K : Type} [DecidableEq K] {knd : KeyKind Pw w K} {d : Addr} {o : Obj} {ps : List (K × Int)} {key : Value} {x : K} {Q : Value → Shared → Prop} (nm : (d == sysModules) = false) (hm : s.heap.get? d = some o) (hd : DO knd o ps) (hkey : knd.is x key = true)
    (h : ∀ tb, Q (.bool (getv ps x).isNone) { s with toks := tb }) : wpAny (model Pw w) A (compareOp .NotIn key (.ref d)) Q E s := by
  obtain ⟨kvs, hk, hv⟩ := id hd
  have hD : s.heap.DictOf knd d kvs := Heap.dictOf_iff.mpr ⟨o, hm, hk⟩
  refine wpAny_notIn_of hkey nm hD.mapOf ?_
  have e : (!(valueAt kvs x).isSome) = (getv ps x).isNone := by
    obtain ⟨h1, h2⟩ := hv.getv x
    cases hg : getv ps x with
    | none => rw [h1 hg]; rfl
    | some y => obtain ⟨t, ht⟩ := h2 y hg; rw [ht]; rfl
  rw [e]; exact h _
end

theorem rJoinAnd {A : Around} {s : Shared} {M : Model} {c : Bool} {t : Sem Bool} {K : Bool → Shared → Prop} (Mid : Bool → Shared → Prop) (h1 : c = true → wpAny M A t Mid (fun _ _ => False) s) (h2 : c = false → Mid false s) (h : ∀ v s', Mid v s' → K v s') :
    if c = true then wpAny M A t K (fun _ _ => False) s else K false s := by
  cases c with
  | true => rw [if_pos rfl]; exact wpAny_mono (h1 rfl) h fun _ _ q => q.elim
  | false => rw [if_neg Bool.false_ne_true]; exact h _ _ (h2 rfl)


-- part S10
noncomputable def T.base (tab : Tab) (t : T) : Str := bs tab t.key
noncomputable def OkT (tab : Tab) (t : T) : Prop := (t.n > 0 ∨ (t.n = 0 ∧ t.ks ≠ [])) ∧ ∃ b r, tab.lookup t.key = some (b, r)
theorem bs_of {tab : Tab} {n : Int} {b r} (e : tab.lookup n = some (b, r)) : bs tab n = b := by simp [bs, e]
theorem OkT.at {tab : Tab} {t : T} (x : OkT tab t) : tab.lookup t.key = some (t.base tab, re tab t.key) := by
  obtain ⟨_, b, r, e⟩ := x
  rw [e, T.base, bs_of e, re_of e]
theorem T.key_pos {t : T} (h : t.n ≠ 0) (x : t.n > 0 ∨ t.n = 0) : t.key = t.n := by
  cases t with
  | mk n ks => rcases x with x | x
               · exact if_pos x
               · exact absurd x h
theorem OkT.num {tab : Tab} {t : T} (x : OkT tab t) (h : t.n ≠ 0) : tab.lookup t.n = some (t.base tab, re tab t.n) := by
  have e := T.key_pos h (x.1.imp id And.left)
  have := x.at
  rw [e] at this; exact this
theorem OkT.ne {tab : Tab} {t : T} (x : OkT tab t) : t.n > 0 ∨ t.ks ≠ [] := x.1.imp id And.right

noncomputable def atT (ts : List T) (i : Int) : T := (ts[i.toNat]?).getD (.mk 0 [])
noncomputable def wantP (tab : Tab) (ts : List T) (acc : List (Str × Int)) (t : T) : Bool :=
  decide (t.base tab ≠ Str.ofString "") && (match getv acc (t.base tab) with | none => true | some p => better t.n (atT ts p).n (re tab t.n) (re tab (atT ts p).n))
noncomputable def plc (tab : Tab) (ts : List T) : Nat → List (Str × Int)
  | 0 => []
  | i + 1 => match ts[i]? with
    | none => plc tab ts i
    | some t => if wantP tab ts (plc tab ts i) t then put (plc tab ts i) (t.base tab) i else plc tab ts i
theorem plc_at (tab : Tab) (ts : List T) : ∀ (i : Nat) (b : Str) (p : Int), getv (plc tab ts i) b = some p → ∃ j t, j < i ∧ p = (j : Nat) ∧ ts[j]? = some t ∧ t.base tab = b
  | 0, b, p, h => by simp [plc, getv] at h
  | i + 1, b, p, h => by
    have ih := plc_at tab ts i b p
    simp only [plc] at h
    split at h
    · obtain ⟨j, t, h1, h2⟩ := ih h; exact ⟨j, t, by exact om_70 h1, h2⟩
    · rename_i t ht
      split at h
      · rw [getv_put] at h
        split at h
        · rename_i hb
          cases h
          exact ⟨i, t, by exact om_71, rfl, ht, hb⟩
        · obtain ⟨j, t, h1, h2⟩ := ih h; exact ⟨j, t, by exact om_70 h1, h2⟩
      · obtain ⟨j, t, h1, h2⟩ := ih h; exact ⟨j, t, by exact om_70 h1, h2⟩
theorem plc_len (tab : Tab) (ts : List T) : ∀ i, (plc tab ts i).length ≤ i
  | 0 => by simp [plc]
  | i + 1 => by
    have ih := plc_len tab ts i
    simp only [plc]
    split
    · exact om_7 ih
    · rename_i t ht
      have := put_len (plc tab ts i) (t.base tab) i
      split <;> (first | exact om_72 ih this | exact om_7 ih)

theorem NTs.at' {w : World} {g : G} {vs : List Value} {ts : List T} (x : NTs w g vs ts) {i : Nat} {t : T} (e : ts[i]? = some t) : ∃ v, vs[i]? = some v ∧ NT w g v t := by
  have h1 : i < ts.length := (List.getElem?_eq_some_iff.mp e).1
  have h2 : i < vs.length := by rw [x.len]; exact h1
  have h3 : vs[i]? = some vs[i] := List.getElem?_eq_getElem h2
  obtain ⟨t', h4, h5⟩ := x.get h3
  rw [e] at h4; cases h4
  exact ⟨_, h3, h5⟩

theorem subject_places_spec {w : World} {A : Around} {E : Value → Shared → Prop} {s : Shared} {Q : Value → Shared → Prop} {g : G} {l d : Addr} {vs : List Value} {ts : List T} {tab : Tab} (R : Room A 30 120) (B : Bs w g) (hg : Le g s.heap.get?)
    (hl : LsG g l vs) (hv : NTs w g vs ts) (ht : TabG w g d tab) (hok : ∀ t ∈ ts, OkT tab t) (hz : ts.length ≤ 1000)
    (hQ : ∀ r o g' h' tb, Grow g s.heap.get? g' h' → g' r = some o → (r == sysModules) = false → DO (strKind Pw w) o (plc tab ts ts.length) → Q (.ref r) { s with heap := h', toks := tb }) : wpAny (model Pw w) A (call (.ref 78) [.ref l, .ref d]) Q E s := by
  refine enterM (mu := []) (fr := s.heap.get?) (binds := [(Str.ofString "nodes", .ref l), (Str.ofString "table", .ref d)]) R B hg (Le.refl _) (fun _ h => nomatch h) List.nodup_nil (by k_is) (by k_is) (BindsTo.of_eq rfl) (locs rfl) (fun L h₁ S => ?_)
  have zl := hv.len
  have zz : (16777216 : Nat) = sizeLine := sizeLine_eq.symm
  have hd1 := R.hd
  refine wpAny_execs_cons ?_; refine wpAny_Assign_Name ?_; try dsimp only
  refine rNewDict B S fun D o h' nm hD S => ?_
  refine stL (by assumption) fun _ _ => ?_; refine wpAny_execs_cons ?_; refine wpAny_For ?_; refine wpAny_Call_NameR ?_
  refine ldB (by assumption) (by assumption) (bnAll _ rfl) (btAll rfl) (by decide) ?_; refine PyProof.Rows.callWith_type1 ?_; refine wpAny_items_cons ?_
  refine ldL (by assumption) (by first | rfl | assumption) ?_; refine wpAny_items_nil ?_; try dsimp only
  rename St _ _ _ _ _ _ _ => S
  refine forE (J := fun i g' m' mu' => ∃ o, mu' = [(D, o)] ∧ m' (Str.ofString "found") = some (.ref D) ∧ m' (Str.ofString "nodes") = some (.ref l) ∧ m' (Str.ofString "table") = some (.ref d) ∧ DO (strKind Pw w) o (plc tab ts i)) hd1 S hl ⟨o, rfl, rfl, rfl, rfl, _, hD _, .nil⟩ ?_ ?_
  · intro i tt v g' m' mq1 X h tk KK hKK hvi hJJ hle S
    refine hide fun PP kP => ?_
    obtain ⟨o, rfl, hm1, hm2, hm3, hD⟩ := hJJ
    refine kP ?_
    clear kP PP
    obtain ⟨t, hti, hN⟩ := hv.get hvi
    have hOk := hok t (List.mem_of_getElem? hti)
    refine wpAny_execs_cons ?_; refine wpAny_Assign_Name ?_; refine wpAny_Call_NameR ?_; refine ldG (by assumption) (by assumption) (gnAll _ rfl) ?_
    refine callWith_K (St.kin (by assumption) (by assumption)) (kpAll _ _ (by decide)) ?_; refine wpAny_items_cons ?_
    refine ldL (by assumption) (by first | rfl | assumption) ?_; refine wpAny_items_cons ?_; refine ldL (by assumption) (by first | rfl | assumption) ?_
    refine wpAny_items_nil ?_; refine keepB (by assumption) (by assumption) ?_; try dsimp only
    refine base_under_spec (R.deeper (by exact om_73) (by exact om_74)) (B.mono hle) S.le (hN.mono hle) (ht.mono hle) hOk.at hOk.ne fun tk2 h' tb XX => ?_
    have S := S.call XX
    refine stL (by assumption) fun _ _ => ?_; refine wpAny_execs_cons ?_; refine wpAny_If ?_; refine wpAny_isTrue_BoolOp ?_; refine wpAny_allTrue_And_cons ?_
    refine wpAny_isTrue_Compare1 ?_; refine ldL (by assumption) (by first | rfl | assumption) ?_; refine rStr fun _ _ => ?_; refine rNeStr ?_
    refine wpAny_truthy_bool ?_; try dsimp only
    rename St _ _ _ _ _ _ _ => S
    refine rJoinAnd (fun b s' => b = wantP tab ts (plc tab ts i) t ∧ ∃ h tk, s' = { s with heap := h, toks := tk } ∧ St g s.heap.get? g' L (fun y => if y = Str.ofString "base" then some (Value.str (T.base tab t) tk2) else if y = Str.ofString "node" then some v else if y = Str.ofString "place" then some (Value.int (i : Nat) tt) else m' y) ([(D, o)] ++ X) h) ?_ ?_ ?_
    · intro hb
      have hb : t.base tab ≠ Str.ofString "" := by simpa using hb
      refine wpAny_allTrue_And_cons ?_; refine wpAny_isTrue_BoolOp ?_; refine wpAny_allTrue_Or_cons ?_; refine wpAny_isTrue_Compare1 ?_
      refine ldL (by assumption) (by first | rfl | assumption) ?_; refine ldL (by assumption) (by first | rfl | assumption) ?_; try dsimp only
      refine rNotInD (x := t.base tab) nm (S.mt _ (.head _)) hD (strKind_is _ _ _ _) fun tb => ?_
      refine wpAny_truthy_bool ?_; try dsimp only
      cases hg : getv (plc tab ts i) (t.base tab) with
      | none =>
        rw [if_pos (by rfl)]
        refine iteT ?_; refine wpAny_allTrue_And_nil ?_; try dsimp only
        refine ⟨?_, _, _, rfl, S⟩
        simp [wantP, hb, hg]
      | some p =>
        rw [if_neg (by simp)]
        obtain ⟨j, u, hj, rfl, huj, hub⟩ := plc_at tab ts i _ _ hg
        obtain ⟨v2, hv2, hN2⟩ := hv.at' huj
        have hOk2 := hok u (List.mem_of_getElem? huj)
        have hjl : j < ts.length := (List.getElem?_eq_some_iff.mp huj).1
        have e2 : atT ts (j : Nat) = u := by simp [atT, huj]
        refine wpAny_allTrue_Or_cons ?_; refine wpAny_isTrue_value ?_; refine wpAny_Call_NameR ?_; refine ldG (by assumption) (by assumption) (gnAll _ rfl) ?_
        refine callWith_K (St.kin (by assumption) (by assumption)) (kpAll _ _ (by decide)) ?_; refine wpAny_items_cons ?_
        refine ldL (by assumption) (by first | rfl | assumption) ?_; refine wpAny_items_cons ?_; refine Subscript_ ?_
        refine ldL (by assumption) (by first | rfl | assumption) ?_; refine Subscript_ ?_; refine ldL (by assumption) (by first | rfl | assumption) ?_
        refine ldL (by assumption) (by first | rfl | assumption) ?_; try dsimp only
        refine rSubD (x := t.base tab) (S.mt _ (.head _)) hD (strKind_is _ _ _ _) hg fun tj tb => ?_
        refine rItemL ((hl.mono hle).at S.le) (by exact om_58) (by exact om_75 hz hjl) (by simpa using hv2) ?_
        refine wpAny_items_cons ?_; refine ldL (by assumption) (by first | rfl | assumption) ?_; refine wpAny_items_nil ?_
        refine keepB (by assumption) (by assumption) ?_; try dsimp only
        cases hN with
        | @mk a1 l1 n1 vs1 ks1 hN1 hL1 hK1 =>
        cases hN2 with
        | @mk a2 l2 n2 vs2 ks2 hN2 hL2 hK2 =>
        refine is_better_spec (R.deeper (by exact om_73) (by exact om_74)) (B.mono hle) S.le (hN1.mono hle) (hN2.mono hle) (ht.mono hle) (fun q => hOk.num q) (fun q => hOk2.num q) fun h' tb XX => ?_
        have S := S.call XX
        refine wpAny_truthy_bool ?_; try dsimp only
        have e3 : wantP tab ts (plc tab ts i) (.mk n1 ks1) = better n1 n2 (re tab n1) (re tab n2) := by
          simp [wantP, hb, hg, e2, T.n]
        simp only [T.n]
        rw [e3]
        cases hbt : better n1 n2 (re tab n1) (re tab n2) with
        | true =>
          refine iteT ?_; try dsimp only
          refine wpAny_allTrue_And_nil ?_
          exact ⟨rfl, _, _, rfl, S⟩
        | false =>
          refine iteF ?_; refine wpAny_allTrue_Or_nil ?_; refine iteF ?_; try dsimp only
          exact ⟨rfl, _, _, rfl, S⟩
    · intro hb
      have hb : t.base tab = Str.ofString "" := by simpa using hb
      exact ⟨by simp [wantP, hb], _, _, rfl, S⟩
    intro b s' hJJ
    refine hide fun PP kP => ?_
    obtain ⟨rfl, h, tk, rfl, S⟩ := hJJ
    refine kP ?_
    clear kP PP
    have e3 : plc tab ts (i + 1) = if wantP tab ts (plc tab ts i) t then put (plc tab ts i) (t.base tab) i else plc tab ts i := by simp only [plc, hti]
    have zp := plc_len tab ts i
    have hil : i < ts.length := (List.getElem?_eq_some_iff.mp hti).1
    cases hw : wantP tab ts (plc tab ts i) t with
    | true =>
      refine iteT ?_; refine wpAny_execs_cons ?_; refine wpAny_Assign_Subscript ?_; refine ldL (by assumption) (by first | rfl | assumption) ?_
      refine ldL (by assumption) (by first | rfl | assumption) ?_; refine ldL (by assumption) (by first | rfl | assumption) ?_; try dsimp only
      refine rPut S hD (fun _ => .here) (strKind_is _ _ _ _) (by exact om_76 hz zz zp hil) fun h' o2 tb hD S => ?_
      refine wpAny_execs_nil ?_; refine wpAny_execs_nil ?_; try dsimp only
      exact hKK g' _ [(D, o2)] _ _ (Le.refl _) S ⟨o2, rfl, hm1, hm2, hm3, by rw [e3, hw, if_pos rfl]; exact hD⟩
    | false =>
      refine iteF ?_; refine wpAny_execs_nil ?_; refine wpAny_execs_nil ?_; try dsimp only
      exact hKK g' _ [(D, o)] _ _ (Le.refl _) S ⟨o, rfl, hm1, hm2, hm3, by rw [e3, hw, if_neg Bool.false_ne_true]; exact hD⟩
  · intro g' m' mq1 h tk hJJ hle S
    refine hide fun PP kP => ?_
    obtain ⟨o, rfl, hm1, hm2, hm3, hD⟩ := hJJ
    refine kP ?_
    clear kP PP
    refine wpAny_execs_cons ?_; refine wpAny_Return_some ?_; refine ldL (by assumption) (by first | rfl | assumption) ?_; try dsimp only
    have S' := S.freeze
    rw [zl] at hD
    exact hQ _ _ _ _ _ S'.gr (ins_self _ _ _) nm hD


-- part S11
noncomputable def OT (w : World) (g : G) (v : Value) : Option T → Prop
  | none => v = .none
  | some t => NT w g v t
theorem OT.mono {w : World} {g g' : G} (k : Le g g') {v : Value} : ∀ {o : Option T}, OT w g v o → OT w g' v o
  | none, x => x
  | some _, x => NT.mono k x
noncomputable def SL (w : World) (g : G) (vs : List Value) (os : List (Option T)) : Prop := vs.length = os.length ∧ ∀ (j : Nat) (v : Value), vs[j]? = some v → ∃ o, os[j]? = some o ∧ OT w g v o
theorem SL.mono {w : World} {g g' : G} (k : Le g g') {vs os} (x : SL w g vs os) : SL w g' vs os :=
  ⟨x.1, fun j v e => let ⟨o, e1, e2⟩ := x.2 j v e; ⟨o, e1, e2.mono k⟩⟩
theorem SL.set {w : World} {g : G} {vs os} (x : SL w g vs os) (i : Nat) {v : Value} {o : Option T} (y : OT w g v o) : SL w g (vs.set i v) (os.set i o) := by
  refine ⟨by simp [x.1], fun j u e => ?_⟩
  rw [List.getElem?_set] at e ⊢
  by_cases hi : i = j
  · subst hi
    simp only [if_true] at e ⊢
    rw [x.1] at e
    split at e
    · cases e; rename_i hl; exact ⟨o, by simp [hl], y⟩
    · cases e
  · simp only [hi, if_false] at e ⊢
    exact x.2 j u e
theorem SL.of {w : World} {g : G} {vs : List Value} {ts : List T} (x : NTs w g vs ts) : SL w g vs (ts.map some) := by
  refine ⟨by simp [x.len], fun j v e => ?_⟩
  obtain ⟨t, h1, h2⟩ := x.get e
  exact ⟨some t, by simp [h1], h2⟩

noncomputable def wantG (tab : Tab) (pl : List (Str × Int)) (i : Nat) (t : T) : Bool := decide (t.base tab ≠ Str.ofString "") && decide (getv pl (t.base tab) ≠ some (i : Nat))
noncomputable def gslots (tab : Tab) (ts : List T) (pl : List (Str × Int)) : Nat → List (Option T)
  | 0 => ts.map some
  | i + 1 => match ts[i]? with
    | none => gslots tab ts pl i
    | some t => if wantG tab pl i t then
        let sl := gslots tab ts pl i
        let p := ((getv pl (t.base tab)).getD 0).toNat
        (sl.set p (some (joinT tab (((sl[p]?).getD none).getD (.mk 0 [])) t))).set i none
      else gslots tab ts pl i
noncomputable def gatherT (tab : Tab) (ts : List T) : List T := (gslots tab ts (plc tab ts ts.length) ts.length).filterMap id

theorem plc_has (tab : Tab) (ts : List T) : ∀ (i j : Nat) (t : T), j < i → ts[j]? = some t → t.base tab ≠ Str.ofString "" → ∃ p, getv (plc tab ts i) (t.base tab) = some p ∧ (t.n = 0 → (atT ts p).n = 0)
  | 0, j, t, h, _, _ => absurd h (Nat.not_lt_zero _)
  | i + 1, j, t, h, ht, hb => by
    have ih := plc_has tab ts i
    simp only [plc]
    cases hi : ts[i]? with
    | none =>
      by_cases hj : j = i
      · subst hj; rw [hi] at ht; cases ht
      · exact ih j t (by exact om_77 h hj) ht hb
    | some u =>
      dsimp only
      by_cases hj : j = i
      · subst hj
        rw [hi] at ht; cases ht
        split
        · refine ⟨(j : Nat), by rw [getv_put]; simp, fun e => ?_⟩
          simp [atT, hi, e]
        · rename_i hw
          simp only [wantP, hb, ne_eq, not_false_eq_true, decide_true, Bool.true_and, Bool.not_eq_true] at hw
          cases hg : getv (plc tab ts j) (T.base tab t) with
          | none => rw [hg] at hw; simp at hw
          | some p =>
            rw [hg] at hw
            refine ⟨p, rfl, fun e => ?_⟩
            simp only [better, e] at hw
            split at hw
            · assumption
            · simp at hw
      · obtain ⟨p, h1, h2⟩ := ih j t (by exact om_77 h hj) ht hb
        split
        · rename_i hw
          rw [getv_put]
          by_cases hbb : u.base tab = t.base tab
          · rw [if_pos hbb]
            refine ⟨(i : Nat), rfl, fun e => ?_⟩
            have := h2 e
            simp only [wantP, hbb, h1, better, this, if_true, Bool.and_false] at hw
            cases hw
          · rw [if_neg hbb]; exact ⟨p, h1, h2⟩
        · exact ⟨p, h1, h2⟩

theorem joinT_size (tab : Tab) (a b : T) : (joinT tab a b).size ≤ a.size + b.size + 1 := by
  cases a with
  | mk n ks =>
  cases b with
  | mk n2 ks2 =>
  unfold joinT
  split
  · simp only [T.size, T.ks, sizes_app]
    split
    · exact om_78
    · simp only [sizes, T.size]; exact om_79
  · split
    · simp only [T.size, T.ks, sizes_app, sizes, T.n]; exact om_79
    · simp only [T.size, sizes]; exact om_80
theorem joinT_n (tab : Tab) (a b : T) (h : (joinT tab a b).n ≠ 0) : (joinT tab a b).n = a.n := by
  unfold joinT at h ⊢
  split
  · rename_i e; rw [if_pos e] at h; simp [T.n] at h
  · rename_i e
    rw [if_neg e] at h
    split
    · rfl
    · rename_i e2; rw [if_neg e2] at h; simp [T.n] at h
theorem gslots_len (tab : Tab) (ts : List T) (pl) : ∀ i, (gslots tab ts pl i).length = ts.length
  | 0 => by simp [gslots]
  | i + 1 => by
    have ih := gslots_len tab ts pl i
    simp only [gslots]
    split
    · exact ih
    · split
      · simp [ih]
      · exact ih
theorem gslots_none (tab : Tab) (ts : List T) (pl) : ∀ (i j : Nat), (gslots tab ts pl i)[j]? = some none → ∃ t, ts[j]? = some t ∧ wantG tab pl j t = true
  | 0, j, h => by simp [gslots] at h
  | i + 1, j, h => by
    have ih := gslots_none tab ts pl i j
    simp only [gslots] at h
    split at h
    · exact ih h
    · rename_i t ht
      split at h
      · rename_i hw
        by_cases hj : i = j
        · subst hj; exact ⟨t, ht, hw⟩
        · rw [List.getElem?_set, if_neg hj, List.getElem?_set] at h
          split at h
          · split at h <;> simp at h
          · exact ih h
      · exact ih h
theorem gslots_some (tab : Tab) (ts : List T) (pl) (hz : ∀ t ∈ ts, t.size ≤ 1000) (hpl : ∀ b p, getv pl b = some p → ∃ (j : Nat) (t : T), p = (j : Nat) ∧ ts[j]? = some t ∧ t.base tab = b) : ∀ (i j : Nat) (u : T), (gslots tab ts pl i)[j]? = some (some u) → u.size ≤ 1001 * (i + 1) ∧ (u.n ≠ 0 → ∃ t, ts[j]? = some t ∧ t.n = u.n)
  | 0, j, u, h => by
    simp [gslots] at h
    have := hz u (List.mem_of_getElem? h)
    exact ⟨by exact om_81 this, fun _ => ⟨u, h, rfl⟩⟩
  | i + 1, j, u, h => by
    have ih := gslots_some tab ts pl hz hpl i
    simp only [gslots] at h
    split at h
    · obtain ⟨h1, h2⟩ := ih j u h; exact ⟨by exact om_82 h1, h2⟩
    · rename_i t ht
      split at h
      · rename_i hw
        by_cases hj : i = j
        · subst hj
          rw [List.getElem?_set, if_pos rfl] at h
          split at h <;> simp at h
        · rw [List.getElem?_set, if_neg hj, List.getElem?_set] at h
          split at h
          · rename_i hp
            split at h
            · rename_i hl
              simp only [Option.some.injEq] at h
              subst h
              rw [hp] at hl ⊢
              have hs : ∃ o, (gslots tab ts pl i)[j]? = some o := ⟨_, List.getElem?_eq_getElem hl⟩
              obtain ⟨o, ho⟩ := hs
              have zt := hz t (List.mem_of_getElem? ht)
              rw [ho]
              simp only [Option.getD_some]
              cases o with
              | some v =>
                simp only [Option.getD_some]
                obtain ⟨h1, h2⟩ := ih j v ho
                have := joinT_size tab v t
                refine ⟨by exact om_83 zt h1 this, fun hn => ?_⟩
                have e := joinT_n tab v t hn
                rw [e] at hn ⊢
                exact h2 hn
              | none =>
                simp only [Option.getD_none]
                have := joinT_size tab (.mk 0 []) t
                simp only [T.size, sizes] at this
                refine ⟨by exact om_84 zt this, fun hn => ?_⟩
                have e := joinT_n tab (.mk 0 []) t hn
                rw [e] at hn; simp [T.n] at hn
            · simp at h
          · obtain ⟨h1, h2⟩ := ih j u h; exact ⟨by exact om_82 h1, h2⟩
      · obtain ⟨h1, h2⟩ := ih j u h; exact ⟨by exact om_82 h1, h2⟩

theorem gathered_spec {w : World} {A : Around} {E : Value → Shared → Prop} {s : Shared} {Q : Value → Shared → Prop} {g : G} {l d : Addr} {vs : List Value} {ts : List T} {tab : Tab} (R : Room A 40 160) (B : Bs w g) (hg : Le g s.heap.get?)
    (hl : LsG g l vs) (hv : NTs w g vs ts) (ht : TabG w g d tab) (hok : ∀ t ∈ ts, OkT tab t) (hz : ts.length ≤ 1000) (hz2 : ∀ t ∈ ts, t.size ≤ 1000)
    (hQ : ∀ r vs' g' h' tb, Grow g s.heap.get? g' h' → LsG g' r vs' → NTs w g' vs' (gatherT tab ts) → Q (.ref r) { s with heap := h', toks := tb }) : wpAny (model Pw w) A (call (.ref 90) [.ref l, .ref d]) Q E s := by
  refine enterM (mu := []) (fr := s.heap.get?) (binds := [(Str.ofString "nodes", .ref l), (Str.ofString "table", .ref d)]) R B hg (Le.refl _) (fun _ h => nomatch h) List.nodup_nil (by k_is) (by k_is) (BindsTo.of_eq rfl) (locs rfl) (fun L h₁ S => ?_)
  have zl := hv.len
  have zz : (16777216 : Nat) = sizeLine := sizeLine_eq.symm
  have hd1 := R.hd
  have hPa : ∀ b p, getv (plc tab ts ts.length) b = some p → ∃ (j : Nat) (t : T), p = (j : Nat) ∧ ts[j]? = some t ∧ t.base tab = b := fun b p e => by
    obtain ⟨j, t, _, h2, h3, h4⟩ := plc_at tab ts _ b p e; exact ⟨j, t, h2, h3, h4⟩
  refine wpAny_execs_cons ?_; refine Assign_Tuple_swapped ?_ (by rfl) (by rfl); refine Tuple_ ?_; refine wpAny_items_cons ?_; refine wpAny_Call_NameR ?_
  refine ldG (by assumption) (by assumption) (gnAll _ rfl) ?_; refine callWith_K (St.kin (by assumption) (by assumption)) (kpAll _ _ (by decide)) ?_
  refine wpAny_items_cons ?_; refine ldL (by assumption) (by first | rfl | assumption) ?_; refine wpAny_items_cons ?_
  refine ldL (by assumption) (by first | rfl | assumption) ?_; refine wpAny_items_nil ?_; refine keepB (by assumption) (by assumption) ?_; try dsimp only
  refine subject_places_spec (R.deeper (by exact om_85) (by exact om_86)) B S.le hl hv ht hok hz fun D o g1 h' tb X hDg nm hD => ?_
  have S := S.call X
  have le1 := X.le
  refine wpAny_items_cons ?_; refine wpAny_Call_NameR ?_; refine ldB (by assumption) (by assumption) (bnAll _ rfl) (btAll rfl) (by decide) ?_
  refine PyProof.Rows.callWith_type1 ?_; refine wpAny_items_cons ?_; refine ldL (by assumption) (by first | rfl | assumption) ?_; refine wpAny_items_nil ?_
  try dsimp only
  obtain ⟨c, hlc⟩ := id (hl.mono le1)
  refine rListCopy S (S.le _ _ hlc) (by exact om_87 hz zl zz) fun sl c2 h' S => ?_
  refine wpAny_items_nil ?_; try dsimp only
  refine rNewTuple S (Nat.le_of_ble_eq_true rfl) fun x h' g2 le2 ht2 S => ?_
  refine rUnpackT hd1 S ht2 rfl fun h' S => ?_
  refine wpAny_assignInOrder_more ?_; refine bindName_ ?_; refine stL (by assumption) fun _ _ => ?_; refine wpAny_assignInOrder_more ?_; refine bindName_ ?_
  refine stL (by assumption) fun _ _ => ?_; refine wpAny_assignInOrder_none ?_; refine wpAny_execs_cons ?_; refine wpAny_For ?_; refine wpAny_Call_NameR ?_
  refine ldB (by assumption) (by assumption) (bnAll _ rfl) (btAll rfl) (by decide) ?_; refine PyProof.Rows.callWith_type1 ?_; refine wpAny_items_cons ?_
  refine ldL (by assumption) (by first | rfl | assumption) ?_; refine wpAny_items_nil ?_; try dsimp only
  rename St _ _ _ _ _ _ _ => S
  have le2 := le1.trans le2
  have hDg2 := (by assumption : Le g1 g2) _ _ hDg
  refine forE (J := fun i g' m' mu' => ∃ svs k, mu' = [(sl, lsOf svs k)] ∧ m' (Str.ofString "slots") = some (.ref sl) ∧ m' (Str.ofString "places") = some (.ref D) ∧ m' (Str.ofString "table") = some (.ref d) ∧ SL w g' svs (gslots tab ts (plc tab ts ts.length) i)) hd1 S (hl.mono le2) ⟨vs, c2, rfl, rfl, rfl, rfl, SL.of (hv.mono le2)⟩ ?_ ?_
  · intro i tt v g' m' mq1 X h tk KK hKK hvi hJJ hle S
    refine hide fun PP kP => ?_
    obtain ⟨svs, kk, rfl, hm1, hm2, hm3, hsv⟩ := hJJ
    refine kP ?_
    clear kP PP
    obtain ⟨t, hti, hN⟩ := hv.get hvi
    have hOk := hok t (List.mem_of_getElem? hti)
    have le3 := le2.trans hle
    refine wpAny_execs_cons ?_; refine wpAny_Assign_Name ?_; refine wpAny_Call_NameR ?_; refine ldG (by assumption) (by assumption) (gnAll _ rfl) ?_
    refine callWith_K (St.kin (by assumption) (by assumption)) (kpAll _ _ (by decide)) ?_; refine wpAny_items_cons ?_
    refine ldL (by assumption) (by first | rfl | assumption) ?_; refine wpAny_items_cons ?_; refine ldL (by assumption) (by first | rfl | assumption) ?_
    refine wpAny_items_nil ?_; refine keepB (by assumption) (by assumption) ?_; try dsimp only
    refine base_under_spec (R.deeper (by exact om_88) (by exact om_89)) (B.mono le3) S.le (hN.mono le3) (ht.mono le3) hOk.at hOk.ne fun tk2 h' tb XX => ?_
    have S := S.call XX
    refine stL (by assumption) fun _ _ => ?_; refine wpAny_execs_cons ?_; refine wpAny_If ?_; refine wpAny_isTrue_BoolOp ?_; refine wpAny_allTrue_And_cons ?_
    refine wpAny_isTrue_Compare1 ?_; refine ldL (by assumption) (by first | rfl | assumption) ?_; refine rStr fun _ _ => ?_; refine rNeStr ?_
    refine wpAny_truthy_bool ?_; try dsimp only
    rename St _ _ _ _ _ _ _ => S
    have hDh : ∀ {h : Heap} {m mu}, St g s.heap.get? g' L m mu h → h.get? D = some o := fun S => S.le _ _ (hle _ _ hDg2)
    refine rJoinAnd (fun b s' => b = wantG tab (plc tab ts ts.length) i t ∧ ∃ h tk, s' = { s with heap := h, toks := tk } ∧ St g s.heap.get? g' L (fun y => if y = Str.ofString "base" then some (Value.str (T.base tab t) tk2) else if y = Str.ofString "node" then some v else if y = Str.ofString "place" then some (Value.int (i : Nat) tt) else m' y) ([(sl, lsOf svs kk)] ++ X) h) ?_ ?_ ?_
    · intro hb
      have hb : t.base tab ≠ Str.ofString "" := by simpa using hb
      have hil : i < ts.length := (List.getElem?_eq_some_iff.mp hti).1
      obtain ⟨p, hp, _⟩ := plc_has tab ts ts.length i t hil hti hb
      refine wpAny_allTrue_And_cons ?_; refine wpAny_isTrue_Compare1 ?_; refine Subscript_ ?_; refine ldL (by assumption) (by first | rfl | assumption) ?_
      refine ldL (by assumption) (by first | rfl | assumption) ?_; try dsimp only
      refine rSubD (x := t.base tab) (hDh S) hD (strKind_is _ _ _ _) hp fun tj tb => ?_
      refine ldL (by assumption) (by first | rfl | assumption) ?_; refine ne_int ?_; refine wpAny_truthy_bool ?_; try dsimp only
      by_cases hpi : p = (i : Nat)
      · rw [if_neg (by simp [hpi])]
        exact ⟨by simp [wantG, hb, hp, hpi], _, _, rfl, S⟩
      · rw [if_pos (by simpa using hpi)]
        refine wpAny_allTrue_And_nil ?_
        exact ⟨by simp [wantG, hb, hp, hpi], _, _, rfl, S⟩
    · intro hb
      have hb : t.base tab = Str.ofString "" := by simpa using hb
      exact ⟨by simp [wantG, hb], _, _, rfl, S⟩
    intro b s' hJJ
    refine hide fun PP kP => ?_
    obtain ⟨rfl, h, tk, rfl, S⟩ := hJJ
    refine kP ?_
    clear kP PP
    have zs := hsv.1
    have zg := gslots_len tab ts (plc tab ts ts.length) i
    have hil : i < ts.length := (List.getElem?_eq_some_iff.mp hti).1
    have e3 : gslots tab ts (plc tab ts ts.length) (i + 1) = if wantG tab (plc tab ts ts.length) i t then ((gslots tab ts (plc tab ts ts.length) i).set ((getv (plc tab ts ts.length) (t.base tab)).getD 0).toNat (some (joinT tab ((((gslots tab ts (plc tab ts ts.length) i)[((getv (plc tab ts ts.length) (t.base tab)).getD 0).toNat]?).getD none).getD (.mk 0 [])) t))).set i none else gslots tab ts (plc tab ts ts.length) i := by simp only [gslots, hti]
    cases hw : wantG tab (plc tab ts ts.length) i t with
    | true =>
      have hb : t.base tab ≠ Str.ofString "" := by intro e; simp [wantG, e] at hw
      obtain ⟨p, hp, hpn⟩ := plc_has tab ts ts.length i t hil hti hb
      obtain ⟨j, u, rfl, huj, hub⟩ := hPa _ _ hp
      have hjl : j < ts.length := (List.getElem?_eq_some_iff.mp huj).1
      have e2 : atT ts (j : Nat) = u := by simp [atT, huj]
      rw [e2] at hpn
      have hOk2 := hok u (List.mem_of_getElem? huj)
      obtain ⟨vj, hvj⟩ : ∃ vj, svs[j]? = some vj := ⟨_, List.getElem?_eq_getElem (by exact om_90 zs zg hjl)⟩
      obtain ⟨oj, hoj, hOT⟩ := hsv.2 j vj hvj
      obtain ⟨hu, hus⟩ : ∃ hu, oj = some hu := by
        cases oj with
        | some hu => exact ⟨hu, rfl⟩
        | none =>
          obtain ⟨u2, hu2, hw2⟩ := gslots_none tab ts _ i j hoj
          rw [huj] at hu2; cases hu2
          simp [wantG, hub, hp] at hw2
      subst hus
      obtain ⟨z1, hn1⟩ := gslots_some tab ts _ hz2 hPa i j hu hoj
      have hun : hu.n ≠ 0 → u.n = hu.n := fun q => by obtain ⟨u2, h1, h2⟩ := hn1 q; rw [huj] at h1; cases h1; exact h2
      have z2 := hz2 t (List.mem_of_getElem? hti)
      refine iteT ?_
      refine wpAny_execs_cons ?_; refine wpAny_Assign_Subscript ?_; refine wpAny_Call_NameR ?_; refine ldG (by assumption) (by assumption) (gnAll _ rfl) ?_
      refine callWith_K (St.kin (by assumption) (by assumption)) (kpAll _ _ (by decide)) ?_; refine wpAny_items_cons ?_; refine Subscript_ ?_
      refine ldL (by assumption) (by first | rfl | assumption) ?_; refine Subscript_ ?_; refine ldL (by assumption) (by first | rfl | assumption) ?_
      refine ldL (by assumption) (by first | rfl | assumption) ?_; try dsimp only
      refine rSubD (x := t.base tab) (hDh S) hD (strKind_is _ _ _ _) hp fun tj tb => ?_
      refine rItemL (vs := svs) ⟨_, S.mt _ (.head _), rfl, _, rfl⟩ (by exact om_58) (by exact om_75 hz hjl) (by simpa using hvj) ?_
      refine wpAny_items_cons ?_; refine ldL (by assumption) (by first | rfl | assumption) ?_; refine wpAny_items_cons ?_
      refine ldL (by assumption) (by first | rfl | assumption) ?_; refine wpAny_items_nil ?_; refine keepB (by assumption) (by assumption) ?_; try dsimp only
      refine joined_spec (R.deeper (by exact om_91) (by exact om_92)) (B.mono le3) S.le hOT (hN.mono le3) (ht.mono le3) (fun q => ?_) ?_ fun r g3 h' tb XX hr => ?_
      · have hu0 := hun q
        refine ⟨⟨_, _, hu0 ▸ hOk2.num (by rw [hu0]; exact q)⟩, ?_⟩
        have ht0 : t.n ≠ 0 := fun e => by have := hpn e; exact om_93 q hu0 this
        exact ⟨_, _, hOk.num ht0⟩
      · have h1 : hu.ks.length ≤ hu.size := by cases hu with | mk n ks => have := len_sizes ks; simp only [T.ks, T.size]; exact om_48 this
        have h2 : t.ks.length ≤ t.size := by cases t with | mk n ks => have := len_sizes ks; simp only [T.ks, T.size]; exact om_48 this
        have h3 : 1001 * (i + 1) ≤ 1001 * 1001 := Nat.mul_le_mul_left _ (by exact om_94 hz hil)
        exact om_95 zz z1 z2 h1 h2 h3
      have S := S.call XX
      have le4 := hle.trans XX.le
      refine ldL (by assumption) (by first | rfl | assumption) ?_; refine Subscript_ ?_; refine ldL (by assumption) (by first | rfl | assumption) ?_
      refine ldL (by assumption) (by first | rfl | assumption) ?_; try dsimp only
      refine rSubD (x := t.base tab) (S.le _ _ (le4 _ _ hDg2)) hD (strKind_is _ _ _ _) hp fun tj tb => ?_
      refine rSetAt S .here (by exact om_90 zs zg hjl) (by exact om_96 hz zz zs zg) fun h' S => ?_
      refine wpAny_execs_cons ?_; refine wpAny_Assign_Subscript ?_; refine wpAny_Constant_none ?_; refine ldL (by assumption) (by first | rfl | assumption) ?_
      refine ldL (by assumption) (by first | rfl | assumption) ?_; try dsimp only
      refine rSetAt S .here (by simp; exact om_90 zs zg hil) (by simp; exact om_96 hz zz zs zg) fun h' S => ?_
      refine wpAny_execs_nil ?_; refine wpAny_execs_nil ?_; try dsimp only
      exact hKK g3 _ [(sl, _)] _ _ XX.le S ⟨_, _, rfl, hm1, hm2, hm3, by rw [e3, hw, if_pos rfl, hp]; simp only [Option.getD_some, Int.toNat_natCast, hoj]; exact ((hsv.mono XX.le).set j (o := some _) hr).set i (o := none) rfl⟩
    | false =>
      refine iteF ?_; refine wpAny_execs_nil ?_; refine wpAny_execs_nil ?_; try dsimp only
      exact hKK g' _ [(sl, lsOf svs kk)] _ _ (Le.refl _) S ⟨_, _, rfl, hm1, hm2, hm3, by rw [e3, hw, if_neg Bool.false_ne_true]; exact hsv⟩
  · intro g' m' mq1 h tk hJJ hle S
    refine hide fun PP kP => ?_
    obtain ⟨svs, kk, rfl, hm1, hm2, hm3, hsv⟩ := hJJ
    refine kP ?_
    clear kP PP
    obtain ⟨g3, le3, hl3, S⟩ := S.frz
    have hsv := hsv.mono le3
    have zs := hsv.1
    have zg := gslots_len tab ts (plc tab ts ts.length) ts.length
    rw [zl] at hsv zs
    refine wpAny_execs_cons ?_; refine wpAny_Return_some ?_; try dsimp only
    refine rCompE (cl := []) ?_ rfl
    refine ldL (by assumption) (by first | rfl | assumption) ?_; try dsimp only
    refine compLE hd1 S hl3 (by exact om_96 hz zz zs zg) (J := fun i g' ys => NTs w g' ys (((gslots tab ts (plc tab ts ts.length) ts.length).take i).filterMap id)) .nil ?_ ?_
    · intro h0 i v g' ys C mc Y h tk KY KN hKY hKN hi hvi hJ hys hle hm S
      obtain ⟨o, ho, hOT⟩ := hsv.2 i v hvi
      refine wpAny_tests_one ?_
      refine wpAny_isTrue_Compare1 ?_; refine ldL (by assumption) (by first | rfl | assumption) ?_; refine wpAny_Constant_none ?_; try dsimp only
      refine isNot_none ?_
      cases o with
      | none =>
        cases hOT
        refine wpAny_truthy_bool ?_
        rw [if_neg (show ¬ (!(Value.none == Value.none)) = true from fun e => by cases e)]
        exact hKN _ _ _ _ (Le.refl _) S (by dsimp only; rw [take_one ho, List.filterMap_append]; simpa using hJ)
      | some u =>
        have hv0 : (v == Value.none) = false := by
          have : NT w g3 v u := hOT
          cases this; rfl
        rw [hv0]
        refine wpAny_truthy_bool ?_
        rw [if_pos (by decide)]
        refine ldL (by assumption) (by first | rfl | assumption) ?_; try dsimp only
        exact hKY _ _ _ _ _ (Le.refl _) S (by dsimp only; rw [take_one ho, List.filterMap_append]; exact hJ.app (.cons (NT.mono hle hOT) .nil))
    · intro D g' ys k h tk hJ hle S
      obtain ⟨g4, le4, hl4, S⟩ := S.frz
      refine hQ _ _ _ _ _ S.gr hl4 ?_
      rw [zs, List.take_of_length_le (Nat.le_refl _)] at hJ
      exact hJ.mono le4


-- part F12
section
variable {w : World} {A : Around} {E : Value → Shared → Prop} {s : Shared} {env : Env} {g0 fr g : G} {L C : Addr} {m mc : Str → Option Value} {mu mu' : List (Addr × Obj)} {v : Value} {pos : Pos} {h h' : Heap} {vs ws : List Value} {k k2 : Nat} {l b r : Addr} {oL : Obj}

theorem mulAny {items : Array Value} {x : Int} {u : Tok} {Q : Value → Shared → Prop} (ho : s.heap.get? l = some { cls := .type "list", dict := none, data := .seq items k, slots := #[] })
    (c0 : ¬(!Builtin.List.listFitsIndex x) = true) (c1 : ¬items.size * x.toNat > (2 ^ 63 - 1) / 8) (c2 : ¬Builtin.List.listTooLong (items.size * x.toNat) = true)
    (h : Q (.ref s.heap.objs.size) { s with heap := s.heap.push { cls := Value.type "list", data := Data.seq (List.foldl (fun x1 x2 => x1 ++ x2) #[] (List.replicate (if items.isEmpty = true then 0 else x.toNat) items)) } }) : wpAny (model Pw w) A (binaryOp .Mult (.ref l) (.int x u)) Q E s :=
  wpAny_binaryOp_repeat_ref (T := "list") (U := "int") (by decide) ⟨_, ho, rfl⟩ (fun s' => typeIs_int s' x u) noFill_list_mul F.fills_int_mul F.slot_int_rmul repeat_list F.slot_int_index.lookup
    (call_meets F.slot_int_rmul (typeIs_int s x u) F.entry_int_rmul (F.args_int_rmul_2 _ _) (lm_int_rmul_list_any x u l items k none #[])
      ⟨ho, rfl, ⟨_, ho, rfl⟩, call_meets F.slot_list_mul ⟨_, ho, rfl⟩ F.entry_list_mul (F.args_list_mul_2 _ _)
        (lm_list_mul_any l items k none #[] x u c0 c1 c2)
        ⟨ho, h⟩⟩)
theorem rNoneMul {n : Nat} {u : Tok} {Q : Value → Shared → Prop} (S : St g0 fr g L m mu s.heap) (ho : s.heap.get? l = some (lsOf [.none] k)) (hz : n ≤ 1000)
    (h : ∀ a h', St g0 fr g L m ((a, lsOf (List.replicate n .none) 0) :: mu) h' → Q (.ref a) { s with heap := h' }) : wpAny (model Pw w) A (binaryOp .Mult (.ref l) (.int (n : Nat) u)) Q E s := by
  refine mulAny (items := [Value.none].toArray) (k := k) ho ?_ ?_ ?_ ?_
  · simp [Builtin.List.listFitsIndex]; exact om_97 hz
  · simp; exact om_98 hz
  · simp [Builtin.List.listTooLong, sizeLine]; exact om_99 hz
  · have e : (List.foldl (fun x1 x2 => x1 ++ x2) #[] (List.replicate (if [Value.none].toArray.isEmpty = true then 0 else ((n : Nat) : Int).toNat) [Value.none].toArray)) = (List.replicate n Value.none).toArray := by
      rw [listMul_foldl_if]; simp
    rw [e]
    exact h _ _ (S.addM (fun _ _ e => Heap.get?_push_of_some _ e) (none_size _) (Heap.get?_push_size _ rfl))

theorem rAssignT {elts : List Expr} {x1} {t : Addr} {Q : Unit → Shared → Prop} (hh : A.handled = none) (S : St g0 fr g L m mu s.heap) (ht : TpG g t vs) (hn : (assignEach elts env).length = vs.length) (hstar : (assignEach elts env).findIdx? (·.1) = none)
    (h : ∀ h', St g0 fr g L m mu h' → wpAny (model Pw w) A (assignInOrder ((assignEach elts env).map (·.2)) vs) Q E { s with heap := h' }) : wpAny (model Pw w) A (assign (.Tuple elts x1 pos) env (.ref t)) Q E s := by
  have hT : s.heap.IsTuple t vs.toArray := by
    obtain ⟨c, e⟩ := ht; exact ⟨_, S.le _ _ e, rfl, _, rfl⟩
  refine wpAny_assign_Tuple hh hT (by simpa using hn) hstar fun h' hx => ?_
  have := h h' (S.keep fun b o e => hx b o (Nat.ne_of_lt (Heap.lt_size e)) e)
  simpa using this
theorem stC {Q : Unit → Shared → Prop} {x : Str} {c : Addr} {o : Obj} {v₀ : Option Value} {mu' : Obj → List (Addr × Obj)} (S : St g0 fr g L m mu s.heap) (hc : env.cells.lookup x = some c) (U : ∀ o', UpL c o o' mu (mu' o')) (hd : o.data = .cell v₀)
    (h : ∀ h' o', o'.data = .cell (some v) → St g0 fr g L m (mu' o') h' → Q () { s with heap := h' })
    (hk : env.scope.kind = .function := by rfl) (hx : env.kindOf x = some .cell := by rfl) : wpAny (model Pw w) A (storeName env x v) Q E s := by
  refine wpAny_storeName_cell hk hx hc ⟨o, S.mt _ (U o).mem, hd⟩ fun h' hv hs => ?_
  obtain ⟨o', ho', hd'⟩ := hv
  exact h h' o' hd' (S.upd (U o') hs ho')
end

/-- entering one of the text's own functions that keeps some names in cells -/
theorem enterCC {w : World} {A : Around} {s : Shared} {RR : Result → Shared → Prop} {d u : Nat} {g : G}
    {name qual : Str} {params : Arguments} {body : List Stmt} {scope : Scope} {dV kV doc pm cdv ct oc : Value} {an od : Option Addr} {osl : Array (Option Value)} {f : Addr} {args : List Value} {binds : List (Str × Value)}
    (R : Room A d u) (B : Bs w g) (hg : Le g s.heap.get?)
    (ho : (hd.heap_39 w.params).lookup f = some ⟨oc, od, .func (fnOf name qual params body scope dV kV doc pm an cdv ct), osl⟩) (hcd : codeIn (hd.heap_39 w.params) cdv qual = true)
    (hbind : bindArgs (fnOf name qual params body scope dV kV doc pm an cdv ct) ⟨args, []⟩ = pure binds)
    (hkind : ∀ L, ∀ x ∈ binds, scope.names.lookup x.1 = some .local ∨ (scope.names.lookup x.1 = some .cell ∧ ((cellsFrom (L + 1) scope.names []).lookup x.1).isSome = true))
    (hcs : ∀ L, ∀ p ∈ cellsFrom (L + 1) scope.names [], (cellsFrom (L + 1) scope.names []).lookup p.1 = some p.2)
    (h : ∀ L h₁ tk (oc : Str → Obj), (∀ p ∈ cellsFrom (L + 1) scope.names [], (oc p.1).data = .cell (bindC (fun x => scope.names.lookup x) binds (fun _ => none) p.1)) →
      St g s.heap.get? g L (bindL (fun x => scope.names.lookup x) binds fun _ => none) ((cellsFrom (L + 1) scope.names []).map fun p => (p.2, oc p.1)) h₁ →
      wpAny (model Pw w) (A.deeper (envX qual scope L f cdv (cellsFrom (L + 1) scope.names []))) (execs body (envX qual scope L f cdv (cellsFrom (L + 1) scope.names [])))
        (fun fl s' => RR (.ok (.ret (match fl with | .ret v => v | _ => .none))) s') (fun _ _ => False) { s with heap := h₁, toks := tk })
    (hco : scope.isCoroutine = false := by rfl) (hgen : scope.isGenerator = false := by rfl) (hk : scope.kind = .function := by rfl) : codeAny (model Pw w) A (.call (.ref f) ⟨args, []⟩) RR s := by
  refine codeAny_call_cells (fd := fnOf name qual params body scope dV kV doc pm an cdv ct) (body := body) (binds := binds) (by have := R.dp; exact om_4 this) (hg _ _ (B.k _ _ ho)) rfl (B.nolimit hg) (codeRec_of (B.kin hg) hcd) rfl hbind rfl (hkind _) (fun s₁ X => ?_) hco hgen hk
  obtain ⟨⟨hp, tk, rfl⟩, hns, hkp, hfr⟩ := X.toInCall
  generalize hL : s.heap.objs.size = L at *
  have hnone : ∀ c, L ≤ c → s.heap.get? c = none := fun c hc => by
    cases e : s.heap.get? c with
    | none => rfl
    | some o => have := Heap.lt_size e; rw [hL] at this; exact absurd (Nat.lt_of_lt_of_le this hc) (Nat.lt_irrefl _)
  let cs := cellsFrom (L + 1) scope.names []
  have hcell : ∀ p ∈ cs, hp.IsCell p.2 (bindC (fun x => scope.names.lookup x) binds (fun _ => none) p.1) := fun p hm => X.cell p.1 p.2 (hcs L p hm)
  have hab : ∀ p ∈ cs, L < p.2 := fun p hm => X.above p.1 p.2 hm
  have hap := X.apart
  have hoc : ∃ oc : Str → Obj, ∀ p ∈ cs, hp.get? p.2 = some (oc p.1) ∧ (oc p.1).data = .cell (bindC (fun x => scope.names.lookup x) binds (fun _ => none) p.1) := by
    refine ⟨fun n => match cs.lookup n with | some c => (hp.get? c).getD default | none => default, fun p hm => ?_⟩
    have e := hcs L p hm
    show hp.get? p.2 = some (match cs.lookup p.1 with | some c => (hp.get? c).getD default | none => default) ∧ (match cs.lookup p.1 with | some c => (hp.get? c).getD default | none => default : Obj).data = _
    rw [show cs.lookup p.1 = some p.2 from e]
    obtain ⟨o, h1, h2⟩ := hcell p hm
    simp only [h1, Option.getD_some, h2, and_self]
  obtain ⟨oc, hoc⟩ := hoc
  refine wpAny_mono (h L hp tk oc (fun p hm => (hoc p hm).2) ⟨⟨hkp, Le.refl _, hg.trans hkp, fun _ _ e => .inl e⟩, hns, ?_, hg.none (hnone L (Nat.le_refl _)), hnone L (Nat.le_refl _), ?_, ?_, ?_, ?_⟩) (fun _ _ q => q) fun _ _ q => q.elim
  · intro q hq
    obtain ⟨p, hm, rfl⟩ := List.mem_map.mp hq
    exact (hoc p hm).1
  · intro q hq
    obtain ⟨p, hm, rfl⟩ := List.mem_map.mp hq
    exact hg.none (hnone _ (Nat.le_of_lt (hab p hm)))
  · intro q hq
    obtain ⟨p, hm, rfl⟩ := List.mem_map.mp hq
    exact hnone _ (Nat.le_of_lt (hab p hm))
  · intro q hq
    obtain ⟨p, hm, rfl⟩ := List.mem_map.mp hq
    exact Nat.ne_of_gt (hab p hm)
  · rw [List.map_map]
    exact List.pairwise_map.mpr hap


-- part S12
noncomputable def LK (g : G) (ln : List T) (p : Nat) (v : Value) : Prop := ∃ (la : Addr) (ws : List Value) (a : Nat) (nd : T), ln[p]? = some nd ∧ v = .ref la ∧ LsG g la ws ∧ ws.length = nd.ks.length ∧ p < a ∧ (∀ (m : Nat) (v' : Value), ws[m]? = some v' → ∃ t, v' = .int ((a + m : Nat) : Int) t) ∧ ∀ m : Nat, m < nd.ks.length → ln[a + m]? = nd.ks[m]?
noncomputable def LKs (g : G) (ln : List T) (lkv : List Value) : Prop := ∀ (p : Nat) (v : Value), lkv[p]? = some v → LK g ln p v
theorem LK.mono {g g' : G} {ln : List T} {p : Nat} {v : Value} (k : Le g g') (more : List T) (x : LK g ln p v) : LK g' (ln ++ more) p v := by
  obtain ⟨la, ws, a, nd, h1, h2, h3, h4, h5, h6, h7⟩ := x
  have up : ∀ (i : Nat) (t : T), ln[i]? = some t → (ln ++ more)[i]? = some t := fun i t e => by
    rw [List.getElem?_append_left (List.getElem?_eq_some_iff.mp e).1]; exact e
  refine ⟨la, ws, a, nd, up _ _ h1, h2, h3.mono k, h4, h5, h6, fun m hm => ?_⟩
  have h8 := h7 m hm
  rw [← h8]
  obtain ⟨t, ht⟩ : ∃ t, nd.ks[m]? = some t := ⟨_, List.getElem?_eq_getElem hm⟩
  rw [h8, ht]
  exact up _ _ (h8.trans ht)
theorem drop_cons {α : Type} {l : List α} {i : Nat} {a : α} (e : l[i]? = some a) : l.drop i = a :: l.drop (i + 1) := by
  obtain ⟨h, rfl⟩ := List.getElem?_eq_some_iff.mp e
  rw [List.drop_eq_getElem_cons h]

theorem told_spec {w : World} {A : Around} {E : Value → Shared → Prop} {s : Shared} {Q : Value → Shared → Prop} {g : G} {v : Value} {t : T} (R : Room A 20 80) (B : Bs w g) (hg : Le g s.heap.get?)
    (hv : NT w g v t) (hz : t.size ≤ 1000)
    (hQ : ∀ r g' h' tb, Grow g s.heap.get? g' h' → TT g' r t → Q r { s with heap := h', toks := tb }) : wpAny (model Pw w) A (call (.ref 33) [v]) Q E s := by
  have zz : (16777216 : Nat) = sizeLine := sizeLine_eq.symm
  refine wpAny_call (enterCC (binds := [(Str.ofString "self", v)]) R B hg (by k_is) (by k_is) (by rfl) ?_ ?_ fun L h₁ tk oc hoc S => ?_)
  · intro L x hx; rw [List.mem_singleton.mp hx]; exact .inl rfl
  · intro L p hp
    simp [cellsFrom] at hp
    rcases hp with rfl | rfl <;> rfl
  have d1 : (oc (Str.ofString "line")).data = .cell none := hoc (Str.ofString "line", L + 1) (.tail _ (.head _))
  have d2 : (oc (Str.ofString "rows")).data = .cell none := hoc (Str.ofString "rows", L + 1 + 1) (.head _)
  have S : St g s.heap.get? g L (fun y => if y = Str.ofString "self" then some v else none) [(L + 1 + 1, oc (Str.ofString "rows")), (L + 1, oc (Str.ofString "line"))] h₁ := S
  generalize oc (Str.ofString "line") = o1 at *
  generalize oc (Str.ofString "rows") = o2 at *
  clear hoc
  have R1 : ∀ env, Room (A.deeper env) 19 70 := fun _ => R.deeper (by exact om_28) (by exact om_29)
  have hd1 : A.handled = none := R.hd
  refine wpAny_execs_cons ?_; refine Assign_Tuple ?_; refine Tuple_ ?_; refine wpAny_items_cons ?_; refine List_ ?_; refine wpAny_items_cons ?_
  refine ldL (by assumption) (by first | rfl | assumption) ?_; refine wpAny_items_nil ?_; try dsimp only
  refine rNewList S (Nat.le_of_ble_eq_true rfl) fun lnA h' S => ?_
  obtain ⟨g1, le1, hl1, S⟩ := S.frz
  refine wpAny_items_cons ?_; refine List_ ?_; refine wpAny_items_nil ?_; try dsimp only
  refine rNewList S (Nat.le_of_ble_eq_true rfl) fun lkA h' S => ?_
  refine wpAny_items_nil ?_; try dsimp only
  refine rNewTuple S (Nat.le_of_ble_eq_true rfl) fun x h' g2 le2 ht2 S => ?_
  refine rAssignT hd1 S ht2 rfl rfl fun h' S => ?_
  refine wpAny_assignInOrder_more ?_; refine PyProof.Rows.assign_Name ?_; try dsimp only
  refine stC S rfl (fun _ => .there (.there .here)) d1 fun h' o3 d3 S => ?_
  refine wpAny_assignInOrder_more ?_; refine PyProof.Rows.assign_Name ?_; refine stL (by assumption) fun _ _ => ?_; refine wpAny_assignInOrder_none ?_
  refine wpAny_execs_cons ?_; try dsimp only
  rename St _ _ _ _ _ _ _ => S
  refine rWhile (J := fun n h => ∃ (ln : List T) (lv lkv : List Value) (lnA : Addr) (k : Nat) (m' : Str → Option Value) (o1 : Obj) (g' : G), St g s.heap.get? g' L m' [(lkA, lsOf lkv k), (L + 1 + 1, o2), (L + 1, o1)] h ∧ Le g g' ∧ m' (Str.ofString "links") = some (.ref lkA) ∧ o1.data = .cell (some (.ref lnA)) ∧ LsG g' lnA lv ∧ NTs w g' lv ln ∧ ln[0]? = some t ∧ LKs g' ln lkv ∧ lkv.length ≤ ln.length ∧ n = sizes (ln.drop lkv.length) ∧ lkv.length + n = t.size)
    t.size ⟨[t], [v], [], lnA, _, _, o3, g2, S, le1.trans le2, rfl, d3, hl1.mono le2, .cons (hv.mono (le1.trans le2)) .nil, rfl, fun p v e => by simp at e, by simp, by simp [sizes], by simp⟩ ?_
  intro n h tk KK hKK hJJ
  refine hide fun PP kP => ?_
  obtain ⟨ln, lv, lkv, lnA, k, m', o1, g', S, le3, hm1, d1, hl, hn, h0, hlk, hle, rfl, hsum⟩ := hJJ
  refine kP ?_
  clear kP PP
  have z1 := hn.len
  have z2 := len_sizes (ln.drop lkv.length)
  rw [List.length_drop] at z2
  have zln : ln.length ≤ 1000 := by exact om_100 hz hsum z2
  obtain ⟨c1, hlc⟩ := id hl
  refine wpAny_isTrue_Compare1 ?_; refine wpAny_Call_NameR ?_; refine ldB (by assumption) (by assumption) (bnAll _ rfl) (btAll rfl) (by decide) ?_
  refine PyProof.Rows.callWith_builtin1 ?_; refine wpAny_items_cons ?_; refine ldL (by assumption) (by first | rfl | assumption) ?_; refine wpAny_items_nil ?_
  try dsimp only
  refine rLenL (vs := lkv) ⟨_, S.mt _ (.head _), rfl, _, rfl⟩ (by exact om_101 hle zln) fun t1 tb => ?_
  refine wpAny_Call_NameR ?_; refine ldB (by assumption) (by assumption) (bnAll _ rfl) (btAll rfl) (by decide) ?_; refine PyProof.Rows.callWith_builtin1 ?_
  refine wpAny_items_cons ?_
  refine ldC (by assumption) rfl (by repeat (first | exact List.Mem.head _ | refine List.Mem.tail _ ?_)) (by first | rfl | assumption) ?_; refine wpAny_items_nil ?_
  try dsimp only
  refine rLenL (hl.at S.le) (by exact om_102 z1 zln) fun t1 tb => ?_
  refine lt_int ?_; refine wpAny_truthy_bool ?_; try dsimp only
  by_cases hlt : lkv.length < ln.length
  · rw [if_pos (by simp; exact om_103 z1 hlt)]
    obtain ⟨nd, hnd⟩ : ∃ nd, ln[lkv.length]? = some nd := ⟨_, List.getElem?_eq_getElem hlt⟩
    obtain ⟨vn, hvn, hNn⟩ := hn.at' hnd
    have hdr := drop_cons hnd
    rw [hdr] at hsum
    simp only [sizes] at hsum
    cases hNn with
    | @mk a l nn vk ks hN hL hK =>
    have z3 := hK.len
    have z4 := len_sizes ks
    simp only [T.size] at hsum
    obtain ⟨c2, hlc2⟩ := id hL
    refine wpAny_execs_cons ?_; refine wpAny_Assign_Name ?_; refine Subscript_ ?_
    refine ldC (by assumption) rfl (by repeat (first | exact List.Mem.head _ | refine List.Mem.tail _ ?_)) (by first | rfl | assumption) ?_
    refine wpAny_Call_NameR ?_; refine ldB (by assumption) (by assumption) (bnAll _ rfl) (btAll rfl) (by decide) ?_; refine PyProof.Rows.callWith_builtin1 ?_
    refine wpAny_items_cons ?_; refine ldL (by assumption) (by first | rfl | assumption) ?_; refine wpAny_items_nil ?_; try dsimp only
    refine rLenL (vs := lkv) ⟨_, S.mt _ (.head _), rfl, _, rfl⟩ (by exact om_104 zln hlt) fun t1 tb => ?_
    refine rItemL (hl.at S.le) (by exact om_58) (by exact om_75 zln hlt) (by simpa using hvn) ?_
    refine stL (by assumption) fun _ _ => ?_; refine wpAny_execs_cons ?_; refine wpAny_Expr ?_; refine MethodCall_ ?_
    refine ldL (by assumption) (by first | rfl | assumption) ?_; try dsimp only
    rename St _ _ _ _ _ _ _ => S
    refine rMethL (S.mt _ (.head _)) PySem.F.slot_list_append PySem.F.type_list_append ?_
    refine PyProof.Rows.callWith_method1 ?_; refine wpAny_items_cons ?_; try dsimp only
    refine rCompE (cl := [(Str.ofString "line", L + 1)]) ?_ rfl
    refine wpAny_Call_NameR ?_; refine ldB (by assumption) (by assumption) (bnAll _ rfl) (btAll rfl) (by decide) ?_; refine PyProof.Rows.callWith_type1 ?_
    refine wpAny_items_cons ?_; refine wpAny_Call_NameR ?_; refine ldB (by assumption) (by assumption) (bnAll _ rfl) (btAll rfl) (by decide) ?_
    refine PyProof.Rows.callWith_builtin1 ?_; refine wpAny_items_cons ?_; refine Attribute_Name_ ?_; refine ldL (by assumption) (by first | rfl | assumption) ?_
    try dsimp only
    refine rKids B S (hN.mono (Le.refl _)) fun tb => ?_
    refine wpAny_items_nil ?_; try dsimp only
    refine rLenL (hL.at S.le) (by exact om_105 hz hsum z3 z4) fun t1 tb => ?_
    refine wpAny_items_nil ?_; try dsimp only
    refine rRange1 S fun rg h' g3 tb le4 hrg S => ?_
    refine compRE hd1 S hrg (rs_up (by exact om_58)) (sm_up (by exact om_58) (by exact om_106 hz hsum z3 z4)) (by exact om_107 hz zz hsum z3 z4) (J := fun i _ ys => ys.length = i ∧ ∀ (m : Nat) (v' : Value), ys[m]? = some v' → ∃ t, v' = .int ((ln.length + m : Nat) : Int) t) ⟨rfl, fun m v' e => by simp at e⟩ ?_ ?_
    · intro h0 i v g'' ys C mc Y h tk KY KN hKY hKN hi hvi hJ hys hle2 hm S
      obtain ⟨ts, rfl⟩ := hvi
      refine wpAny_tests_nil ?_
      rw [if_pos rfl]
      refine wpAny_BinOp ?_; refine wpAny_Call_NameR ?_; refine ldB (by assumption) (by assumption) (bnAll _ rfl) (btAll rfl) (by decide) ?_
      refine PyProof.Rows.callWith_builtin1 ?_; refine wpAny_items_cons ?_
      refine ldC (by assumption) rfl (by repeat (first | exact List.Mem.head _ | refine List.Mem.tail _ ?_)) (by first | rfl | assumption) ?_; refine wpAny_items_nil ?_
      try dsimp only
      refine rLenL ((hl.mono (le4.trans hle2)).at S.le) (by exact om_102 z1 zln) fun t1 tb => ?_
      refine ldL (by assumption) (by first | rfl | assumption) ?_; refine rAddI fun _ _ => ?_; try dsimp only
      refine hKY _ _ _ _ _ (Le.refl _) S ⟨by simp [hJ.1], fun m v' e => ?_⟩
      rcases Nat.lt_or_ge m ys.length with hmy | hmy
      · rw [List.getElem?_append_left hmy] at e; exact hJ.2 m v' e
      · rw [List.getElem?_append_right hmy] at e
        have : m - ys.length = 0 := by
          rcases Nat.eq_zero_or_pos (m - ys.length) with q | q
          · exact q
          · rw [List.getElem?_eq_none (by simp; exact om_108 q)] at e; cases e
        rw [this] at e; simp only [List.getElem?_cons_zero, Option.some.injEq] at e
        subst e
        have e3 : m = i := by (first | with_reducible assumption | with_reducible exact Int.natCast_nonneg _ | omega)
        subst e3
        exact ⟨_, by congr 1; exact om_109 z1⟩
    · intro D g'' ys k2 h tk hJ hle2 S
      obtain ⟨g4, le5, hl4, S⟩ := S.frz
      have le6 := (le4.trans hle2).trans le5
      refine wpAny_items_nil ?_; try dsimp only
      refine rAppend S .here (by exact om_110 zz zln hlt) fun h' S => ?_
      refine wpAny_execs_cons ?_; refine wpAny_Assign_Name ?_; refine wpAny_BinOp ?_
      refine ldC (by assumption) rfl (by repeat (first | exact List.Mem.head _ | refine List.Mem.tail _ ?_)) (by first | rfl | assumption) ?_; refine Attribute_Name_ ?_
      refine ldL (by assumption) (by first | rfl | assumption) ?_; try dsimp only
      refine rKids B S (hN.mono le6) fun tb => ?_
      refine rAddL S (S.le _ _ (le6 _ _ hlc)) (S.le _ _ (le6 _ _ hlc2)) (by exact om_111 hz zz z1 zln hsum z3 z4) fun nl h' S => ?_
      obtain ⟨g5, le7, hl5, S⟩ := S.frz
      have le8 := le6.trans le7
      try dsimp only
      refine stC S rfl (fun _ => .there (.there .here)) d1 fun h' o4 d4 S => ?_
      refine wpAny_execs_nil ?_; try dsimp only
      have hs5 : sizes ((ln ++ ks).drop (lkv ++ [Value.ref D]).length) = sizes (ln.drop (lkv.length + 1)) + sizes ks := by
        rw [List.length_append, List.length_singleton, List.drop_append_of_le_length (by exact om_6 hlt), sizes_app]
      refine hKK (sizes ((ln ++ ks).drop (lkv ++ [Value.ref D]).length)) _ _ (by rw [hdr]; simp only [sizes, T.size]; exact om_112 hs5) ⟨ln ++ ks, lv ++ vk, lkv ++ [.ref D], nl, _, (fun y => if y = Str.ofString "node" then some (Value.ref a) else m' y), o4, g5, S, le3.trans le8, hm1, d4, hl5, (hn.mono le8).app (hK.mono le8), ?_, ?_, by simp; exact om_113 hlt, rfl, ?_⟩
      · rw [List.getElem?_append_left (by exact om_114 hlt)]; exact h0
      · intro p v' e
        rcases Nat.lt_or_ge p lkv.length with hp | hp
        · rw [List.getElem?_append_left hp] at e
          exact (hlk p v' e).mono le8 ks
        · rw [List.getElem?_append_right hp] at e
          have hp0 : p = lkv.length := by
            rcases Nat.eq_zero_or_pos (p - lkv.length) with q | q
            · exact om_115 hp q
            · rw [List.getElem?_eq_none (by simp; exact om_108 q)] at e; cases e
          subst hp0
          simp only [Nat.sub_self, List.getElem?_cons_zero, Option.some.injEq] at e
          subst e
          refine ⟨D, ys, ln.length, .mk nn ks, ?_, rfl, hl4.mono le7, by rw [hJ.1, z3]; rfl, hlt, hJ.2, fun m hm => ?_⟩
          · rw [List.getElem?_append_left hlt]; exact hnd
          · rw [List.getElem?_append_right (by exact om_67)]; simp [T.ks]
      · rw [hs5]; simp; exact om_116 hsum
  · rw [if_neg (by simp; exact om_117 z1 hlt)]
    have hke : lkv.length = ln.length := by exact om_11 hle hlt
    obtain ⟨g3, le4, hlkG, S⟩ := S.frz
    have le5 := le3.trans le4
    have hl := hl.mono le4
    have hn := hn.mono le4
    have hlk : LKs g3 ln lkv := fun p v e => by have := (hlk p v e).mono le4 []; rwa [List.append_nil] at this
    have h0l : 0 < ln.length := (List.getElem?_eq_some_iff.mp h0).1
    refine wpAny_execs_cons ?_; refine wpAny_Assign_Name ?_; refine wpAny_BinOp ?_; refine List_ ?_; refine wpAny_items_cons ?_; refine wpAny_Constant_none ?_
    refine wpAny_items_nil ?_; try dsimp only
    refine rNewList S (Nat.le_of_ble_eq_true rfl) fun a0 h' S => ?_
    refine wpAny_Call_NameR ?_; refine ldB (by assumption) (by assumption) (bnAll _ rfl) (btAll rfl) (by decide) ?_; refine PyProof.Rows.callWith_builtin1 ?_
    refine wpAny_items_cons ?_
    refine ldC (by assumption) rfl (by repeat (first | exact List.Mem.head _ | refine List.Mem.tail _ ?_)) (by first | rfl | assumption) ?_; refine wpAny_items_nil ?_
    try dsimp only
    refine rLenL (hl.at S.le) (by exact om_102 z1 zln) fun t1 tb => ?_
    refine rNoneMul S (S.mt _ (.head _)) (by exact om_118 z1 zln) fun rA h' S => ?_
    have S := S.sub (.cons_cons _ (.cons _ (List.Sublist.refl _)))
    try dsimp only
    refine stC S rfl (fun _ => .there .here) d2 fun h' o5 d5 S => ?_
    refine wpAny_execs_cons ?_; refine wpAny_For ?_; refine wpAny_Call_NameR ?_; refine ldB (by assumption) (by assumption) (bnAll _ rfl) (btAll rfl) (by decide) ?_
    refine PyProof.Rows.callWith_type1 ?_; refine wpAny_items_cons ?_; refine wpAny_BinOp ?_; refine wpAny_Call_NameR ?_
    refine ldB (by assumption) (by assumption) (bnAll _ rfl) (btAll rfl) (by decide) ?_; refine PyProof.Rows.callWith_builtin1 ?_; refine wpAny_items_cons ?_
    refine ldC (by assumption) rfl (by repeat (first | exact List.Mem.head _ | refine List.Mem.tail _ ?_)) (by first | rfl | assumption) ?_; refine wpAny_items_nil ?_
    try dsimp only
    refine rLenL (hl.at S.le) (by exact om_102 z1 zln) fun t1 tb => ?_
    refine rInt fun _ _ => ?_; refine rSubI fun _ _ => ?_; refine wpAny_items_cons ?_; refine UnaryOp_ ?_; refine rInt fun _ _ => ?_; refine neg_int ?_
    refine wpAny_items_cons ?_; refine UnaryOp_ ?_; refine rInt fun _ _ => ?_; refine neg_int ?_; refine wpAny_items_nil ?_; try dsimp only
    refine rRange3 (by decide) (PyProof.noPylong_of_log2 (by decide +kernel)) S fun rg h' g4 tb le6 hrg S => ?_
    have le7 := le5.trans le6
    have hl := hl.mono le6
    have hn := hn.mono le6
    have hlkG := hlkG.mono le6
    refine forR (J := fun i g' m' mu' => ∃ rv k, mu' = [(rA, lsOf rv k), (L + 1 + 1, o5), (L + 1, o1)] ∧ m' (Str.ofString "links") = some (.ref lkA) ∧ rv.length = ln.length ∧ ∀ (j : Nat) (v : Value), ln.length - i ≤ j → rv[j]? = some v → ∃ nd, ln[j]? = some nd ∧ TT g' v nd) hd1 S hrg (n := ln.length) (by rw [rangeSize_downNat]; exact om_119 z1) (small_down (by exact om_120) (by exact om_121 z1 zln) (by exact om_122) (by exact om_123)) ⟨_, _, rfl, hm1, by simp; exact om_124 z1, fun j v h1 h2 => ?_⟩ ?_ ?_
    · rw [List.getElem?_eq_none (by simp; exact om_125 z1 h1)] at h2; cases h2
    · intro i tt g' m' mq1 X h tk KK hKK hi hJJ hle2 S
      refine hide fun PP kP => ?_
      obtain ⟨rv, kr, rfl, hm1, hrl, hrv⟩ := hJJ
      refine kP ?_
      clear kP PP
      have le8 := le7.trans hle2
      have hpl : (ln.length - 1 - i : Nat) < ln.length := by exact om_126 hi
      have epl : (lv.length : Int) - 1 + (i : Nat) * (-1) = ((ln.length - 1 - i : Nat) : Int) := by exact om_127 z1 hi
      rw [epl]
      generalize hplace : ln.length - 1 - i = place at *
      obtain ⟨nd, hnd⟩ : ∃ nd, ln[place]? = some nd := ⟨_, List.getElem?_eq_getElem hpl⟩
      obtain ⟨vn, hvn, hNn⟩ := hn.at' hnd
      obtain ⟨vl, hvl⟩ : ∃ vl, lkv[place]? = some vl := ⟨_, List.getElem?_eq_getElem (by exact om_103 hke hpl)⟩
      obtain ⟨la, ws, a, nd2, h1, rfl, h3, h4, h5, h6, h7⟩ := hlk place vl hvl
      rw [hnd] at h1; cases h1
      cases hNn with
      | @mk na nl nn vk ks hN hL hK =>
      simp only [T.ks] at h4 h7
      have zks : ks.length ≤ 1000 := by
        rcases Nat.eq_zero_or_pos ks.length with q | q
        · exact om_128 q
        · have h8 := h7 (ks.length - 1) (by exact om_129 q)
          obtain ⟨kd, hkd⟩ : ∃ kd, ks[ks.length - 1]? = some kd := ⟨_, List.getElem?_eq_getElem (by exact om_129 q)⟩
          rw [hkd] at h8
          have := (List.getElem?_eq_some_iff.mp h8).1
          exact om_130 zln this
      refine PyProof.Rows.assign_Name ?_; refine stL (by assumption) fun _ _ => ?_; refine wpAny_execs_cons ?_; refine wpAny_Assign_Subscript ?_; refine Tuple_ ?_
      refine wpAny_items_cons ?_; refine Attribute_any_ ?_; refine Subscript_ ?_
      refine ldC (by assumption) rfl (by repeat (first | exact List.Mem.head _ | refine List.Mem.tail _ ?_)) (by first | rfl | assumption) ?_
      refine ldL (by assumption) (by first | rfl | assumption) ?_; try dsimp only
      rename St _ _ _ _ _ _ _ => S
      refine rItemL ((hl.mono hle2).at S.le) (by exact om_58) (by exact om_75 zln hpl) (by simpa using hvn) ?_
      try dsimp only
      refine rNumber B S (hN.mono hle2) fun tn tb => ?_
      refine wpAny_items_cons ?_; refine wpAny_Call_NameR ?_; refine ldB (by assumption) (by assumption) (bnAll _ rfl) (btAll rfl) (by decide) ?_
      refine PyProof.Rows.callWith_type1 ?_; refine wpAny_items_cons ?_; try dsimp only
      refine rCompE (cl := [(Str.ofString "rows", L + 1 + 1)]) ?_ rfl
      refine Subscript_ ?_; refine ldL (by assumption) (by first | rfl | assumption) ?_; refine ldL (by assumption) (by first | rfl | assumption) ?_; try dsimp only
      refine rItemL ((hlkG.mono hle2).at S.le) (by exact om_58) (by exact om_75 zln hpl) (by simpa using hvl) ?_
      refine compLE hd1 S (h3.mono (le6.trans hle2)) (by exact om_131 zz h4 zks) (J := fun i g' ys => TTs g' ys (ks.take i)) .nil ?_ ?_
      · intro h0 q v g'' ys C mc Y h tk KY KN hKY hKN hq hvq hJ hys hle3 hm S
        obtain ⟨tq, rfl⟩ := h6 q v hvq
        have hqk : q < ks.length := by exact om_132 h4 hq
        have h8 := h7 q hqk
        obtain ⟨kd, hkd⟩ : ∃ kd, ks[q]? = some kd := ⟨_, List.getElem?_eq_getElem hqk⟩
        rw [hkd] at h8
        have haq : a + q < ln.length := (List.getElem?_eq_some_iff.mp h8).1
        obtain ⟨rq, hrq⟩ : ∃ rq, rv[a + q]? = some rq := ⟨_, List.getElem?_eq_getElem (by exact om_133 hrl haq)⟩
        obtain ⟨nd3, h9, h10⟩ := hrv (a + q) rq (by exact om_134 hplace h5) hrq
        rw [h8] at h9; cases h9
        refine wpAny_tests_nil ?_
        rw [if_pos rfl]
        refine Subscript_ ?_; refine ldC (by assumption) rfl (by repeat (first | exact List.Mem.head _ | refine List.Mem.tail _ ?_)) (by first | rfl | assumption) ?_
        refine ldL (by assumption) (by first | rfl | assumption) ?_; try dsimp only
        refine rItemL (vs := rv) ⟨_, S.mt _ (.head _), rfl, _, rfl⟩ (by exact om_135) (by exact om_136 zln haq) (by rw [Int.toNat_natCast]; exact hrq) ?_
        refine hKY _ _ _ _ _ (Le.refl _) S ?_
        dsimp only
        rw [take_one hkd]
        exact hJ.app (.cons (h10.mono hle3) .nil)
      · intro D g'' ys k2 h tk hJ hle3 S
        rw [h4, List.take_of_length_le (Nat.le_refl _)] at hJ
        have z4 := hJ.len
        have z5 := hK.len
        refine wpAny_items_nil ?_; try dsimp only
        refine rTupleOf S (S.mt _ (.head _)) (by exact om_137 zz zks z4) fun x h' g5 le9 ht5 S => ?_
        refine wpAny_items_nil ?_; try dsimp only
        refine rNewTuple S (Nat.le_of_ble_eq_true rfl) fun y h' g6 le10 ht6 S => ?_
        have S := S.drop
        refine ldC (by assumption) rfl (by repeat (first | exact List.Mem.head _ | refine List.Mem.tail _ ?_)) (by first | rfl | assumption) ?_
        refine ldL (by assumption) (by first | rfl | assumption) ?_; try dsimp only
        refine rSetAt S .here (by exact om_103 hrl hpl) (by exact om_137 zz zln hrl) fun h' S => ?_
        refine wpAny_execs_nil ?_; try dsimp only
        refine hKK g6 _ [(rA, _), (L + 1 + 1, o5), (L + 1, o1)] _ _ (hle3.trans (le9.trans le10)) S ⟨_, _, rfl, hm1, by simp [hrl], fun j v h1 h2 => ?_⟩
        rw [List.getElem?_set] at h2
        by_cases hj : place = j
        · subst hj
          rw [if_pos rfl, if_pos (by exact om_103 hrl hpl)] at h2
          cases h2
          exact ⟨_, hnd, .mk ht6 (ht5.mono le10) (hJ.mono (le9.trans le10))⟩
        · rw [if_neg hj] at h2
          obtain ⟨nd3, h9, h10⟩ := hrv j v (by exact om_138 hplace h1 hj) h2
          exact ⟨nd3, h9, h10.mono (hle3.trans (le9.trans le10))⟩
    · intro g' m' mq1 h tk hJJ hle2 S
      refine hide fun PP kP => ?_
      obtain ⟨rv, kr, rfl, hm1, hrl, hrv⟩ := hJJ
      refine kP ?_
      clear kP PP
      obtain ⟨v0, hv0⟩ : ∃ v0, rv[0]? = some v0 := ⟨_, List.getElem?_eq_getElem (by exact om_139 h0l hrl)⟩
      obtain ⟨nd, h1, h2⟩ := hrv 0 v0 (by exact om_140) hv0
      rw [h0] at h1; cases h1
      refine wpAny_execs_cons ?_; refine wpAny_Return_some ?_; refine Subscript_ ?_
      refine ldC (by assumption) rfl (by repeat (first | exact List.Mem.head _ | refine List.Mem.tail _ ?_)) (by first | rfl | assumption) ?_; refine rInt fun _ _ => ?_
      try dsimp only
      refine rItemL (vs := rv) ⟨_, S.mt _ (.head _), rfl, _, rfl⟩ (by exact om_141) (by exact om_142) (by simpa using hv0) ?_
      exact hQ _ _ _ _ S.gr h2


-- part F13
noncomputable def off (f : G) (ex : List Addr) : G := fun a => if a ∈ ex then none else f a
theorem off_le (f : G) (ex : List Addr) : Le (off f ex) f := fun a o e => by
  unfold off at e; split at e
  · cases e
  · exact e
structure MG (g : G) (h : Heap) (ex : List Addr) (g' : G) (h' : Heap) : Prop where
  gr : Grow g (off h.get? ex) g' h'
  no : ∀ a ∈ ex, g' a = none
section
variable {g0 fr g g' : G} {L : Addr} {m : Str → Option Value} {mu mu' X X' Y : List (Addr × Obj)} {h h' : Heap}
/-- behind a call that changes some objects -/
theorem St.callM (S : St g0 fr g L m (X ++ Y) h) (C : MG g h (X.map Prod.fst) g' h') (e : X'.map Prod.fst = X.map Prod.fst) (ht : ∀ p ∈ X', h'.get? p.1 = some p.2) : St g0 fr g' L m (X' ++ Y) h' := by
  have nd := S.nd
  rw [List.map_append] at nd
  have hin : ∀ a ∈ X.map Prod.fst, ∃ o, (a, o) ∈ X ++ Y := fun a ha => by
    obtain ⟨p, hp, rfl⟩ := List.mem_map.mp ha; exact ⟨p.2, List.mem_append.mpr (.inl hp)⟩
  have keep : ∀ b o, b ∉ X.map Prod.fst → h.get? b = some o → h'.get? b = some o := fun b o hb q => C.gr.frm b o (by unfold off; rw [if_neg hb]; exact q)
  have frX : ∀ b o, fr b = some o → b ∉ X.map Prod.fst := fun b o q hm => by
    obtain ⟨o', ho'⟩ := hin b hm; have := S.fm _ ho'; dsimp only at this; rw [q] at this; cases this
  have LX : L ∉ X.map Prod.fst := fun hm => by obtain ⟨o', ho'⟩ := hin L hm; exact S.mL _ ho' rfl
  have YX : ∀ p ∈ Y, p.1 ∉ X.map Prod.fst := fun p hp hm => (List.nodup_append.mp nd).2.2 p.1 hm p.1 (List.mem_map_of_mem hp) rfl
  have fresh : ∀ b o, h.get? b = some o → b ∉ X.map Prod.fst → g b = none → g' b = none := fun b o q hb gb => by
    cases e : g' b with
    | none => rfl
    | some o' =>
      rcases C.gr.new b o' e with q' | q'
      · rw [gb] at q'; cases q'
      · unfold off at q'; rw [if_neg hb, q] at q'; cases q'
  have inX : ∀ p ∈ X', p.1 ∈ X.map Prod.fst := fun p hp => e ▸ List.mem_map_of_mem hp
  have memb : ∀ p ∈ X' ++ Y, p.1 ∈ X.map Prod.fst ∨ p ∈ Y := fun p hp => by
    rcases List.mem_append.mp hp with hp | hp
    · exact .inl (inX p hp)
    · exact .inr hp
  refine ⟨⟨fun b o q => keep b o (frX b o q) (S.gr.frm b o q), S.gr.le.trans C.gr.le, C.gr.im, fun a o q => ?_⟩, S.ns.at' (fun o q => keep L o LX q), ?_, ?_, S.fL, ?_, ?_, ?_, ?_⟩
  · rcases C.gr.new a o q with q' | q'
    · exact S.gr.new a o q'
    · right
      by_cases ha : a ∈ X.map Prod.fst
      · have := C.no a ha; rw [q] at this; cases this
      · unfold off at q'; rw [if_neg ha] at q'; exact S.gr.frm.none q'
  · intro p hp
    rcases List.mem_append.mp hp with hp | hp
    · exact ht p hp
    · exact keep _ _ (YX p hp) (S.mt p (List.mem_append.mpr (.inr hp)))
  · obtain ⟨o, ho⟩ := ns_get S.ns
    exact fresh L o ho LX S.gL
  · intro p hp
    rcases memb p hp with hp | hp
    · exact C.no _ hp
    · exact fresh _ _ (S.mt p (List.mem_append.mpr (.inr hp))) (YX p hp) (S.gm p (List.mem_append.mpr (.inr hp)))
  · intro p hp
    rcases memb p hp with hp | hp
    · obtain ⟨o', ho'⟩ := hin _ hp; exact S.fm (p.1, o') ho'
    · exact S.fm p (List.mem_append.mpr (.inr hp))
  · intro p hp
    rcases memb p hp with hp | hp
    · obtain ⟨o', ho'⟩ := hin _ hp; exact S.mL (p.1, o') ho'
    · exact S.mL p (List.mem_append.mpr (.inr hp))
  · rw [List.map_append, e]; exact nd
theorem St.toMG {g : G} {h0 : Heap} (S : St g (off h0.get? (X.map Prod.fst)) g' L m X' h') (e : X'.map Prod.fst = X.map Prod.fst) : MG g h0 (X.map Prod.fst) g' h' :=
  ⟨S.gr, fun a ha => by
    rw [← e] at ha
    obtain ⟨p, hp, rfl⟩ := List.mem_map.mp ha
    exact S.gm p hp⟩
end

section
variable {K : Type} [DecidableEq K]
theorem valueAt_stored (kvs : List (K × Value)) (k x : K) (v : Value) : valueAt (stored kvs k v) x = if k = x then some v else valueAt kvs x := by
  unfold stored
  split
  · rename_i h
    induction kvs with
    | nil => simp at h
    | cons p r ih =>
      obtain ⟨a, z⟩ := p
      by_cases ha : a = k
      · subst ha
        by_cases hx : a = x
        · simp [valueAt, hx]
        · have e : ∀ r : List (K × Value), (r.map (fun kv => if kv.1 = a then (kv.1, v) else kv)).find? (fun kv => decide (kv.1 = x)) = r.find? (fun kv => decide (kv.1 = x)) := by
            intro r
            induction r with
            | nil => rfl
            | cons q r ih2 =>
              obtain ⟨b, z2⟩ := q
              rw [List.map_cons, List.find?_cons, List.find?_cons, ih2]
              by_cases hb : b = a
              · subst hb; simp [hx]
              · simp only [hb, if_false]
          simp only [valueAt, List.map_cons, if_true, List.find?_cons, hx, decide_false, if_false, e]
      · have h' : r.any (fun p => decide (p.1 = k)) = true := by simpa [ha] using h
        have ih := ih h'
        by_cases hx : a = x
        · subst hx; simp [valueAt, ha, Ne.symm ha]
        · simp only [valueAt, List.map_cons, ha, if_false, List.find?_cons, hx, decide_false] at ih ⊢
          exact ih
  · rename_i h
    by_cases hx : k = x
    · subst hx
      have : kvs.find? (fun kv => decide (kv.1 = k)) = none := by
        rw [List.find?_eq_none]
        intro p hp q
        exact h (List.any_eq_true.mpr ⟨p, hp, q⟩)
      simp [valueAt, List.find?_append, this]
    · simp only [valueAt, List.find?_append, List.find?_cons, hx, decide_false, if_false, List.find?_nil, Option.or_none]
theorem stored_len_old (kvs : List (K × Value)) (k : K) (v u : Value) (h : valueAt kvs k = some u) : (stored kvs k v).length = kvs.length := by
  unfold stored
  split
  · simp
  · rename_i hn
    have : kvs.find? (fun kv => decide (kv.1 = k)) = none := by
      rw [List.find?_eq_none]
      intro p hp q
      exact hn (List.any_eq_true.mpr ⟨p, hp, q⟩)
    simp [valueAt, this] at h
end

section
variable {w : World} {A : Around} {E : Value → Shared → Prop} {s : Shared} {env : Env} {g0 fr g : G} {L C : Addr} {m mc : Str → Option Value} {mu mu' : List (Addr × Obj)} {v : Value} {pos : Pos} {h h' : Heap} {vs ws : List Value} {k k2 : Nat} {l b r : Addr} {oL : Obj}
theorem rSubV {K : Type} [DecidableEq K] {knd : KeyKind Pw w K} {d : Addr} {o : Obj} {kvs : List (K × Value)} {key : Value} {x : K} {y : Value} {Q : Value → Shared → Prop} {value slice : Expr} (hm : s.heap.get? d = some o) (hd : o.IsDictOf knd kvs) (hkey : knd.is x key = true) (hy : valueAt kvs x = some y)
    (h : ∀ tb, Q y { s with toks := tb }) (hs : subscripted slice false (.ref d) key = operate [.ref d, key] (getItem (.ref d) key) := by with_unfolding_all rfl) :
    wpAny (model Pw w) A (subscriptTail value slice (.ref d) key) Q E s := by
  have hD : s.heap.DictOf knd d kvs := Heap.dictOf_iff.mpr ⟨o, hm, hd⟩
  exact tail_any hD.typeIs slot_dict_getitem.lookup (wpAny_getItem_of hkey hD.mapOf hy (h _)) hs
theorem rPutV {K : Type} [DecidableEq K] {knd : KeyKind Pw w K} {d : Addr} {o : Obj} {kvs : List (K × Value)} {key : Value} {x : K} {mu' : Obj → List (Addr × Obj)} {Q : Unit → Shared → Prop} (S : St g0 fr g L m mu s.heap) (hd : o.IsDictOf knd kvs) (U : ∀ o', UpL d o o' mu (mu' o')) (hkey : knd.is x key = true) (hz : kvs.length ≤ sizeLine)
    (h : ∀ h' o' tb, o'.IsDictOf knd (stored kvs x v) → St g0 fr g L m (mu' o') h' → Q () { s with heap := h', toks := tb }) : wpAny (model Pw w) A (setItem (.ref d) key v) Q E s := by
  refine wpAny_setItem_pairs (kvs := kvs) hkey (Heap.dictOf_iff.mpr ⟨o, S.mt _ (U o).mem, hd⟩) (fun h' hm hs => ?_) hz
  obtain ⟨o', ho', hd'⟩ := Heap.dictOf_iff.mp hm
  exact h h' o' _ hd' (S.upd (U o') hs ho')
theorem rLenD {K : Type} [DecidableEq K] {knd : KeyKind Pw w K} {d : Addr} {o : Obj} {kvs : List (K × Value)} {Q : Value → Shared → Prop} (nm : (d == sysModules) = false) (hm : s.heap.get? d = some o) (hd : o.IsDictOf knd kvs) (hz : kvs.length ≤ 1000)
    (h : ∀ t tb, Q (.int (kvs.length : Nat) t) { s with toks := tb }) : wpAny (model Pw w) A (call (.builtin "len") [.ref d]) Q E s :=
  call_len_dict nm (Heap.dictOf_iff.mpr ⟨o, hm, hd⟩) (by exact om_143 hz) (h _ _)
theorem rUpto {value : Expr} {p pc : Pos} {c : Nat} {n : Int} {Q : Value → Shared → Prop} (hn : 0 ≤ n) (S : St g0 fr g L m mu s.heap) (hl : s.heap.IsList l vs.toArray) (hz : vs.length ≤ sizeLine)
    (h : ∀ a h' tb, St g0 fr g L m ((a, lsOf (vs.take n.toNat) 0) :: mu) h' → Q (.ref a) { s with heap := h', toks := tb })
    (hs : ∀ a, ∃ ops, subscripted (.Slice none (some (.Constant (.int n) c pc)) none p) false (.ref l) (.ref a) = operate ops (getItem (.ref l) (.ref a)) := by intro _; exact ⟨_, by with_unfolding_all rfl⟩) :
    wpAny (model Pw w) A (eval (.Slice none (some (.Constant (.int n) c pc)) none p) env) (fun i s₂ => wpAny (model Pw w) A (subscriptTail value (.Slice none (some (.Constant (.int n) c pc)) none p) (.ref l) i) Q E s₂) E s := by
  refine wpAny_Slice ?_
  refine wpAny_pure ?_
  rw [evalPart_some]
  refine wpAny_Constant_int (wpAny_pure ?_)
  dsimp only
  obtain ⟨ops, hs⟩ := hs s.heap.objs.size
  have hL : (s.heap.push { cls := .type "slice", data := .fields #[.none, .int n s.toks, .none] }).IsList l vs.toArray := by obtain ⟨o, ho, r⟩ := hl; exact ⟨o, Heap.get?_push_of_some _ ho, r⟩
  refine tail_any (ops := ops) (Heap.IsList.typeIs hL) list_getitem_lookup (wpAny_getItem_list_slice hL (Heap.IsSliceOf.new ..) .none (.int n _) .none (by decide) ?_ (by simpa using hz)) hs
  have e : sliceBounds none (some n) none vs.toArray.size = (((0 : Nat) : Int), ((min n.toNat vs.toArray.size : Nat) : Int), 1) := by
    simp only [sliceBounds, Option.getD_none, show (1 : Int) > 0 by decide, if_true, if_neg (show ¬ (n < 0) by exact om_144 hn)]
    congr 1
    congr 1
    exact om_145
  rw [kmk_pick_nat _ e]
  have e2 : ((vs.toArray.toList.drop 0).take (min n.toNat vs.toArray.size - 0)) = vs.take n.toNat := by
    show (vs.drop 0).take (min n.toNat vs.toArray.size - 0) = _
    rw [List.drop_zero, Nat.sub_zero, List.size_toArray, kmk_take_min]
  rw [e2]
  have S1 := S.keep (fun b o e => Heap.get?_push_of_some { cls := .type "slice", data := .fields #[.none, .int n s.toks, .none] } e)
  have := h _ _ (s.toks + 1) (S1.addM (fun _ _ e => Heap.get?_push_of_some (lsOf (vs.take n.toNat) 0) e) (none_size _) (Heap.get?_push_size _ rfl))
  exact this
theorem rSum {ns : List Int} {Q : Value → Shared → Prop} (hh : A.handled = none) (S : St g0 fr g L m mu s.heap) (hl : s.heap.IsList l vs.toArray) (hi : IntsAre vs ns)
    (h : ∀ h' t tb, St g0 fr g L m mu h' → Q (.int ns.sum t) { s with heap := h', toks := tb }) : wpAny (model Pw w) A (call (.builtin "sum") [.ref l]) Q E s := by
  obtain ⟨xs, hx⟩ := hi.allInts.items
  have hl' : s.heap.IsList l (intItems xs) := hx ▸ hl
  refine sum_intListG hh hl' fun h' tk t' hk => ?_
  have e1 : ns = xs.toList.map (·.1) := by
    rw [← nums_intItems, ← hx]
    exact (show numsOf vs.toArray.toList = ns from hi.numsOf).symm
  have e2 : preSum (numAt xs) xs.size = ns.sum := by
    rw [preSum_eq, List.take_of_length_le (by simp), e1]
  rw [e2]
  exact h _ _ _ (S.keep hk)
end


-- part S13
noncomputable def AllI (vs : List Value) : Prop := ∀ v ∈ vs, ∃ n t, v = Value.int n t
noncomputable def StockO (w : World) (o : Obj) (ca : Addr) : Prop := ∃ kvs, o.IsDictOf (strKind Pw w) kvs ∧ kvs.length ≤ 10 ∧ valueAt kvs (Str.ofString "cells") = some (.ref ca) ∧ (∃ n t, valueAt kvs (Str.ofString "now") = some (.int n t)) ∧ ∃ n t, valueAt kvs (Str.ofString "tail") = some (.int n t)
theorem StockO.now {w : World} {o : Obj} {ca : Addr} {kvs : List (Str × Value)} {v u : Value} {n : Int} {t : Tok} (hv : v = .int n t) (h : o.IsDictOf (strKind Pw w) (stored kvs (Str.ofString "now") v)) (hz : kvs.length ≤ 10) (h1 : valueAt kvs (Str.ofString "cells") = some (.ref ca)) (h2 : valueAt kvs (Str.ofString "now") = some u) (h3 : ∃ n t, valueAt kvs (Str.ofString "tail") = some (.int n t)) : StockO w o ca := by
  subst hv
  refine ⟨_, h, by rw [stored_len_old _ _ _ _ h2]; exact hz, ?_, ⟨n, t, ?_⟩, ?_⟩
  · rw [valueAt_stored, if_neg (by decide)]; exact h1
  · rw [valueAt_stored, if_pos rfl]
  · rw [valueAt_stored, if_neg (by decide)]; exact h3
theorem StockO.tail {w : World} {o : Obj} {ca : Addr} {kvs : List (Str × Value)} {u : Value} {n : Int} {t : Tok} (h : o.IsDictOf (strKind Pw w) (stored kvs (Str.ofString "tail") (.int n t))) (hz : kvs.length ≤ 10) (h1 : valueAt kvs (Str.ofString "cells") = some (.ref ca)) (h2 : valueAt kvs (Str.ofString "tail") = some u) (h3 : ∃ n t, valueAt kvs (Str.ofString "now") = some (.int n t)) : StockO w o ca := by
  refine ⟨_, h, by rw [stored_len_old _ _ _ _ h2]; exact hz, ?_, ?_, ⟨n, t, ?_⟩⟩
  · rw [valueAt_stored, if_neg (by decide)]; exact h1
  · rw [valueAt_stored, if_neg (by decide)]; exact h3
  · rw [valueAt_stored, if_pos rfl]
inductive Stk (w : World) (D ca : Addr) : List (Addr × Obj) → Prop
  | mk {oD : Obj} {cv : List Value} {k : Nat} : StockO w oD ca → AllI cv → cv.length ≤ 63 → Stk w D ca [(D, oD), (ca, lsOf cv k)]
theorem Stk.fst {w : World} {D ca : Addr} {X : List (Addr × Obj)} (x : Stk w D ca X) : X.map Prod.fst = [D, ca] := by cases x; rfl
theorem rMid {α : Type} {A : Around} {s : Shared} {M : Model} {t : Sem α} {K : α → Shared → Prop} {E : Value → Shared → Prop} (Mid : α → Shared → Prop) (h1 : wpAny M A t Mid (fun _ _ => False) s) (h : ∀ v s', Mid v s' → K v s') : wpAny M A t K E s :=
  wpAny_mono h1 h fun _ _ q => q.elim

theorem law_part_spec {w : World} {A : Around} {E : Value → Shared → Prop} {s : Shared} {Q : Value → Shared → Prop} {g : G} {D ca : Addr} {X : List (Addr × Obj)} {most : Int} {tm : Tok} (R : Room A 10 40) (B : Bs w g) (hg : Le g s.heap.get?)
    (hX : Stk w D ca X) (hm : ∀ p ∈ X, s.heap.get? p.1 = some p.2 ∧ g p.1 = none) (hnd : (X.map Prod.fst).Nodup) (h0 : 0 < most) (h1 : most < 100)
    (hQ : ∀ r t X' h' tb, 0 ≤ r → r < most → Stk w D ca X' → MG g s.heap (X.map Prod.fst) g h' → (∀ p ∈ X', h'.get? p.1 = some p.2) → Q (.int r t) { s with heap := h', toks := tb }) : wpAny (model Pw w) A (call (.ref 103) [.ref D, .int most tm]) Q E s := by
  have hfs := hX.fst
  refine enterM (mu := X) (fr := off s.heap.get? (X.map Prod.fst)) (binds := [(Str.ofString "stock", .ref D), (Str.ofString "most", .int most tm)]) R B hg (off_le _ _) (fun p hp => ⟨(hm p hp).1, (hm p hp).2, by unfold off; rw [if_pos (List.mem_map_of_mem hp)]⟩) hnd (by k_is) (by k_is) (BindsTo.of_eq rfl) (locs rfl) (fun L h₁ S => ?_)
  have hd1 := R.hd
  have R1 : ∀ env, Room (A.deeper env) 9 37 := fun _ => R.deeper (by exact om_146) (by exact om_147)
  have hfin : ∀ {g' m X' h' }, St g (off s.heap.get? (X.map Prod.fst)) g' L m X' h' → Stk w D ca X' → MG g s.heap (X.map Prod.fst) g' h' := fun S hX' => S.toMG (hX'.fst.trans hfs.symm)
  have zz : (16777216 : Nat) = sizeLine := sizeLine_eq.symm
  cases hX with
  | @mk oD cv k hO hA hz =>
  refine wpAny_execs_cons ?_
  refine rMid (fun f s' => f = .next ∧ ∃ oD cv k h tk, s' = { s with heap := h, toks := tk } ∧ StockO w oD ca ∧ AllI cv ∧ cv.length ≤ 63 ∧ St g (off s.heap.get? [D, ca]) g L (fun y => List.lookup y [(Str.ofString "stock", Value.ref D), (Str.ofString "most", .int most tm)].reverse) [(D, oD), (ca, lsOf cv k)] h) ?_ ?_
  · obtain ⟨kvs, hd, hz10, v1, ⟨n2, t2, v2⟩, ⟨n3, t3, v3⟩⟩ := hO
    refine wpAny_If ?_; refine wpAny_isTrue_BoolOp ?_; refine wpAny_allTrue_And_cons ?_; refine wpAny_isTrue_Compare1 ?_; refine Subscript_ ?_
    refine ldL (by assumption) (by first | rfl | assumption) ?_; refine rStr fun _ _ => ?_; try dsimp only
    refine rSubV (S.mt _ (.head _)) hd (strKind_is _ _ _ _) v2 fun tb => ?_
    refine rInt fun _ _ => ?_; refine lt_int ?_; refine wpAny_truthy_bool ?_; try dsimp only
    by_cases hn : n2 < 0
    · rw [if_pos (by simpa using hn)]
      refine wpAny_allTrue_And_cons ?_; refine wpAny_isTrue_Compare1 ?_; refine Subscript_ ?_; refine ldL (by assumption) (by first | rfl | assumption) ?_
      refine rStr fun _ _ => ?_; try dsimp only
      refine rSubV (S.mt _ (.head _)) hd (strKind_is _ _ _ _) v1 fun tb => ?_
      refine List_ ?_; refine wpAny_items_nil ?_; try dsimp only
      refine rNewList S (Nat.le_of_ble_eq_true rfl) fun b h' S => ?_
      refine rNeNil (S.mt _ (.tail _ (.tail _ (.head _)))) (S.mt _ (.head _)) (by have := (R1 default).un; exact Nat.lt_of_le_of_lt (Nat.le_add_right _ _) this) ?_
      have S := S.drop
      cases cv with
      | nil =>
        refine wpAny_truthy_bool ?_
        rw [if_neg (by simp)]
        rw [if_neg (by simp)]
        refine wpAny_execs_nil ?_; try dsimp only
        exact ⟨rfl, _, _, _, _, _, rfl, ⟨kvs, hd, hz10, v1, ⟨n2, t2, v2⟩, ⟨n3, t3, v3⟩⟩, hA, hz, S⟩
      | cons c0 cv =>
        refine wpAny_truthy_bool ?_
        rw [if_pos (by simp)]
        refine wpAny_allTrue_And_nil ?_
        rw [if_pos rfl]
        refine wpAny_execs_cons ?_; refine wpAny_Assign_Subscript ?_; refine MethodCall_ ?_; refine Subscript_ ?_
        refine ldL (by assumption) (by first | rfl | assumption) ?_; refine rStr fun _ _ => ?_; try dsimp only
        refine rSubV (S.mt _ (.head _)) hd (strKind_is _ _ _ _) v1 fun tb => ?_
        refine rMethL (S.mt _ (.tail _ (.head _))) PySem.F.slot_list_pop PySem.F.type_list_pop ?_
        refine PyProof.Rows.callWith_method1 ?_; refine wpAny_items_cons ?_; refine rInt fun _ _ => ?_; refine wpAny_items_nil ?_; try dsimp only
        simp only [List.length_cons] at hz
        refine rPop0 S (.there .here) (by exact om_148 zz hz) fun h' S => ?_
        refine ldL (by assumption) (by first | rfl | assumption) ?_; refine rStr fun _ _ => ?_; try dsimp only
        refine rPutV S hd (fun _ => .here) (strKind_is _ _ _ _) (by exact om_149 zz hz10) fun h' o' tb hd' S => ?_
        refine wpAny_execs_nil ?_; try dsimp only
        obtain ⟨n0, t0, rfl⟩ := hA _ (.head _)
        exact ⟨rfl, _, _, _, _, _, rfl, StockO.now rfl hd' hz10 v1 v2 ⟨n3, t3, v3⟩, fun v hv => hA v (.tail _ hv), by exact om_150 hz, S⟩
    · rw [if_neg (by simpa using hn)]
      refine iteF ?_; refine wpAny_execs_nil ?_; try dsimp only
      exact ⟨rfl, _, _, _, _, _, rfl, ⟨kvs, hd, hz10, v1, ⟨n2, t2, v2⟩, ⟨n3, t3, v3⟩⟩, hA, hz, S⟩
  rintro _ _ ⟨rfl, oD, cv, k, h, tk, rfl, hO, hA, hz, S⟩
  obtain ⟨kvs, hd, hz10, v1, ⟨n2, t2, v2⟩, ⟨n3, t3, v3⟩⟩ := hO
  refine wpAny_execs_cons ?_; refine wpAny_If ?_; refine wpAny_isTrue_Compare1 ?_; refine Subscript_ ?_; refine ldL (by assumption) (by first | rfl | assumption) ?_
  refine rStr fun _ _ => ?_; try dsimp only
  refine rSubV (S.mt _ (.head _)) hd (strKind_is _ _ _ _) v2 fun tb => ?_
  refine rInt fun _ _ => ?_; refine lt_int ?_; refine wpAny_truthy_bool ?_; try dsimp only
  by_cases hn : n2 < 0
  · rw [if_pos (by simpa using hn)]
    refine wpAny_execs_cons ?_; refine wpAny_Assign_Subscript ?_; refine wpAny_BinOp ?_; refine wpAny_BinOp ?_; refine wpAny_BinOp ?_; refine Subscript_ ?_
    refine ldL (by assumption) (by first | rfl | assumption) ?_; refine rStr fun _ _ => ?_; try dsimp only
    refine rSubV (S.mt _ (.head _)) hd (strKind_is _ _ _ _) v3 fun tb => ?_
    refine rInt fun _ _ => ?_; try dsimp only
    refine PySem.P.mul_int ?_ (IntMulOk.of_right (by decide))
    refine rInt fun _ _ => ?_; refine rAddI fun _ _ => ?_; refine rInt fun _ _ => ?_; try dsimp only
    refine mod_int' (by decide) ?_
    refine ldL (by assumption) (by first | rfl | assumption) ?_; refine rStr fun _ _ => ?_; try dsimp only
    refine rPutV S hd (fun _ => .here) (strKind_is _ _ _ _) (by exact om_149 zz hz10) fun h' o' tb hd' S => ?_
    refine wpAny_execs_cons ?_; refine wpAny_Return_some ?_; refine wpAny_BinOp ?_; refine wpAny_BinOp ?_; refine Subscript_ ?_
    refine ldL (by assumption) (by first | rfl | assumption) ?_; refine rStr fun _ _ => ?_; try dsimp only
    have hO := StockO.tail hd' hz10 v1 v3 ⟨n2, t2, v2⟩
    obtain ⟨kvs, hd, hz10, v1, ⟨n2, t2, v2⟩, ⟨n3, t3, v3⟩⟩ := id hO
    refine rSubV (S.mt _ (.head _)) hd (strKind_is _ _ _ _) v3 fun tb => ?_
    refine rInt fun _ _ => ?_; try dsimp only
    refine floordiv_int (by decide) ?_
    refine ldL (by assumption) (by first | rfl | assumption) ?_; try dsimp only
    refine mod_int' (by exact om_27 h0) ?_
    have e1 : ∀ a : Int, 0 ≤ a.fmod most := fun a => Int.fmod_nonneg_of_pos a h0
    have e2 : ∀ a : Int, a.fmod most < most := fun a => Int.fmod_lt_of_pos a h0
    have hS := Stk.mk (w := w) (D := D) (k := k) hO hA hz
    exact hQ _ _ _ _ _ (e1 _) (e2 _) hS (hfin S hS) S.mt
  · rw [if_neg (by simpa using hn)]
    refine wpAny_execs_nil ?_; refine wpAny_execs_cons ?_; refine wpAny_Assign_Name ?_; refine wpAny_BinOp ?_; refine Subscript_ ?_
    refine ldL (by assumption) (by first | rfl | assumption) ?_; refine rStr fun _ _ => ?_; try dsimp only
    refine rSubV (S.mt _ (.head _)) hd (strKind_is _ _ _ _) v2 fun tb => ?_
    refine ldL (by assumption) (by first | rfl | assumption) ?_; try dsimp only
    refine mod_int' (by exact om_27 h0) ?_
    refine stL (by assumption) fun _ _ => ?_; refine wpAny_execs_cons ?_; refine wpAny_Assign_Subscript ?_; refine IfExp_ ?_; refine wpAny_isTrue_Compare1 ?_
    refine Subscript_ ?_; refine ldL (by assumption) (by first | rfl | assumption) ?_; refine rStr fun _ _ => ?_; try dsimp only
    rename St _ _ _ _ _ _ _ => S
    refine rSubV (S.mt _ (.head _)) hd (strKind_is _ _ _ _) v2 fun tb => ?_
    refine ldL (by assumption) (by first | rfl | assumption) ?_; refine ge_int ?_; refine wpAny_truthy_bool ?_; try dsimp only
    refine rJoin (fun v s' => ∃ n t tf tk h m', v = .int n t ∧ s' = { s with heap := h, toks := tk } ∧ m' (Str.ofString "found") = some (.int (n2.fmod most) tf) ∧ m' (Str.ofString "stock") = some (.ref D) ∧ St g (off s.heap.get? [D, ca]) g L m' [(D, oD), (ca, lsOf cv k)] h) ?_ ?_ ?_
    · intro hc
      refine wpAny_BinOp ?_; refine Subscript_ ?_; refine ldL (by assumption) (by first | rfl | assumption) ?_; refine rStr fun _ _ => ?_; try dsimp only
      refine rSubV (S.mt _ (.head _)) hd (strKind_is _ _ _ _) v2 fun tb => ?_
      refine ldL (by assumption) (by first | rfl | assumption) ?_; try dsimp only
      refine floordiv_int (by exact om_27 h0) ?_ (.inl (PyProof.noPylong_small (by (first | with_reducible assumption | with_reducible exact Int.natCast_nonneg _ | omega))))
      exact ⟨_, _, _, _, _, _, rfl, rfl, rfl, rfl, S⟩
    · intro hc
      refine UnaryOp_ ?_; refine rInt fun _ _ => ?_; refine neg_int ?_; try dsimp only
      exact ⟨_, _, _, _, _, _, rfl, rfl, rfl, rfl, S⟩
    rintro _ _ ⟨n, t, tf, tk, h, m', rfl, rfl, m1, m2, S⟩
    refine ldL (by assumption) (by first | rfl | assumption) ?_; refine rStr fun _ _ => ?_; try dsimp only
    refine rPutV S hd (fun _ => .here) (strKind_is _ _ _ _) (by exact om_149 zz hz10) fun h' o' tb hd' S => ?_
    refine wpAny_execs_cons ?_; refine wpAny_Return_some ?_; refine ldL (by assumption) (by first | rfl | assumption) ?_; try dsimp only
    have hO := StockO.now rfl hd' hz10 v1 v2 ⟨n3, t3, v3⟩
    have e1 : ∀ a : Int, 0 ≤ a.fmod most := fun a => Int.fmod_nonneg_of_pos a h0
    have e2 : ∀ a : Int, a.fmod most < most := fun a => Int.fmod_lt_of_pos a h0
    have hS := Stk.mk (w := w) (D := D) (k := k) hO hA hz
    exact hQ _ _ _ _ _ (e1 _) (e2 _) hS (hfin S hS) S.mt


-- part F14
section
variable {w : World} {A : Around} {E : Value → Shared → Prop} {s : Shared} {env : Env} {g0 fr g : G} {L C : Addr} {m mc : Str → Option Value} {mu mu' Y : List (Addr × Obj)} {v : Value} {pos : Pos} {h h' : Heap} {vs ws : List Value} {k k2 : Nat} {l b r : Addr} {oL : Obj}
variable {elt iter : Expr} {x y : Str} {px py : Pos} {ifs : List Expr} {scope : Scope} {cl : List (Str × Addr)} {cpos : Pos} {J : Nat → G → List Value → Prop}
theorem compLB {K : Shared → Prop} (hh : A.handled = none) (S : St g0 fr g env.locals m mu s.heap) (hl : LsG g l vs) (hz : vs.length ≤ sizeLine) (h0 : J 0 g [])
    (turn : ∀ h0 : Heap, CompTurn w A env elt x ifs scope cl g0 fr g mu vs.length (fun i v => vs[i]? = some v) J { s with heap := h0 })
    (fin : ∀ D g' ys k h tk, J vs.length g' ys → Le g g' → St g0 fr g' env.locals (fun z => if z = y then some (.ref D) else m z) ((D, lsOf ys k) :: mu) h → K { s with heap := h, toks := tk })
    (hy : env.kindOf y = some .local := by rfl) (hke : env.scope.kind = .function := by rfl)
    (hcell : ∀ y ∈ scope.names, y.2 ≠ .cell := by decide) (hkind : scope.kind = .function := by rfl) (hx : scope.names.lookup x = some .local := by rfl) :
    wpAny (model Pw w) A (pyIter (.ref l)) (fun it s₂ => CompAt w A E env elt x px iter ifs scope cl cpos (some (assign (.Name y py) env)) (fun _ s' => K s') it s₂) E s :=
  compLA (Q := fun _ s => K s) hh S hl hz h0 turn fin hy hke hcell hkind hx
theorem compRB {K : Shared → Prop} {a b c : Int} {n : Nat} (hh : A.handled = none) (S : St g0 fr g env.locals m mu s.heap) (hr : RangeG g r a b c) (hn : Builtin.Range.rangeSize a b c = n) (hsm : Builtin.Range.small a b c = true) (hz : n ≤ sizeLine) (h0 : J 0 g [])
    (turn : ∀ h0 : Heap, CompTurn w A env elt x ifs scope cl g0 fr g mu n (fun i v => ∃ t, v = .int (a + i * c) t) J { s with heap := h0 })
    (fin : ∀ D g' ys k h tk, J n g' ys → Le g g' → St g0 fr g' env.locals (fun z => if z = y then some (.ref D) else m z) ((D, lsOf ys k) :: mu) h → K { s with heap := h, toks := tk })
    (hy : env.kindOf y = some .local := by rfl) (hke : env.scope.kind = .function := by rfl)
    (hcell : ∀ y ∈ scope.names, y.2 ≠ .cell := by decide) (hkind : scope.kind = .function := by rfl) (hx : scope.names.lookup x = some .local := by rfl) :
    wpAny (model Pw w) A (pyIter (.ref r)) (fun it s₂ => CompAt w A E env elt x px iter ifs scope cl cpos (some (assign (.Name y py) env)) (fun _ s' => K s') it s₂) E s :=
  compRA (Q := fun _ s => K s) hh S hr hn hsm hz h0 turn fin hy hke hcell hkind hx

/-- fresh changing objects out of a call -/
theorem St.addMs {g' : G} {X : List (Addr × Obj)} (S : St g0 fr g L m mu h) (C : Grow g h.get? g' h') (hX : ∀ p ∈ X, h'.get? p.1 = some p.2 ∧ g' p.1 = none ∧ h.get? p.1 = none) (nd : (X.map Prod.fst).Nodup) : St g0 fr g' L m (X ++ mu) h' := by
  have S1 := S.call C
  have apart : ∀ p ∈ X, ∀ q ∈ mu, p.1 ≠ q.1 := fun p hp q hq e => by
    have h1 := (hX p hp).2.2
    have h2 := S.mt q hq
    rw [e, h2] at h1; cases h1
  refine ⟨S1.gr, S1.ns, ?_, S1.gL, S1.fL, ?_, ?_, ?_, ?_⟩
  · intro p hp; rcases List.mem_append.mp hp with hp | hp
    · exact (hX p hp).1
    · exact S1.mt p hp
  · intro p hp; rcases List.mem_append.mp hp with hp | hp
    · exact (hX p hp).2.1
    · exact S1.gm p hp
  · intro p hp; rcases List.mem_append.mp hp with hp | hp
    · exact S.gr.frm.none (hX p hp).2.2
    · exact S1.fm p hp
  · intro p hp; rcases List.mem_append.mp hp with hp | hp
    · intro e
      obtain ⟨o, ho⟩ := ns_get S.ns
      have := (hX p hp).2.2; rw [e, ho] at this; cases this
    · exact S1.mL p hp
  · rw [List.map_append]
    refine List.nodup_append.mpr ⟨nd, S1.nd, fun a ha b hb e => ?_⟩
    obtain ⟨p, hp, rfl⟩ := List.mem_map.mp ha
    obtain ⟨q, hq, rfl⟩ := List.mem_map.mp hb
    exact apart p hp q hq e

theorem rDictDisp {keys : List (Option Expr)} {values : List Expr} {Q : Value → Shared → Prop} (B : Bs w g0) (S : St g0 fr g L m mu s.heap)
    (hall : keys.all (·.isSome) = true) (hl : keys.length = values.length) (h0 : keys ≠ []) (hlen : keys.length ≤ 15)
    (h : ∀ D o h', (D == sysModules) = false → o.IsDictOf (strKind Pw w) [] → St g0 fr g L m ((D, o) :: mu) h' →
      wpAny (model Pw w) A (evalPairs (pairTrees keys values env pos)) (fun vs s₁ => ∃ kvs g' mu' tk h1, s₁ = { s with heap := h1, toks := tk } ∧ Carries (strKind Pw w) vs kvs ∧ St g0 fr g' L m ((D, o) :: mu') h1 ∧
        ∀ o' h2 tk2, o'.IsDictOf (strKind Pw w) (merged [] kvs) → St g0 fr g' L m ((D, o') :: mu') h2 → Q (.ref D) { s with heap := h2, toks := tk2 }) (fun _ _ => False) { s with heap := h' }) :
    wpAny (model Pw w) A (eval (.Dict keys values pos) env) Q E s := by
  have hnew : (s.heap.push { cls := .type "dict", data := .dict #[] }).DictOf (strKind Pw w) s.heap.objs.size [] := Heap.DictOf.new s.heap
  obtain ⟨o0, ho0, hd0⟩ := Heap.dictOf_iff.mp hnew
  have S1 := S.addM (fun b o e => Heap.get?_push_of_some { cls := .type "dict", data := .dict #[] } e) (none_size _) ho0
  refine wpAny_Dict_walk (knd := strKind Pw w) hall hl h0 hlen (wpAny_mono (h _ o0 _ (notModsNew B S) hd0 S1) (fun vs s₁ h₁ => ?_) fun _ _ q => q.elim)
  obtain ⟨kvs, g', mu', tk, h1, rfl, hc, S2, hQ⟩ := h₁
  refine ⟨kvs, hc, Heap.dictOf_iff.mpr ⟨o0, S2.mt _ (.head _), hd0⟩, fun h2 hm hs => ?_⟩
  obtain ⟨o', ho', hd'⟩ := Heap.dictOf_iff.mp hm
  exact hQ o' h2 _ hd' (S2.upd .here hs ho')
end


-- part S14
theorem st3 (a b c : Value) : valueAt (merged [] [(Str.ofString "cells", a), (Str.ofString "now", b), (Str.ofString "tail", c)]) (Str.ofString "cells") = some a ∧ valueAt (merged [] [(Str.ofString "cells", a), (Str.ofString "now", b), (Str.ofString "tail", c)]) (Str.ofString "now") = some b ∧ valueAt (merged [] [(Str.ofString "cells", a), (Str.ofString "now", b), (Str.ofString "tail", c)]) (Str.ofString "tail") = some c := by
  simp only [merged, List.foldl_cons, List.foldl_nil]
  refine ⟨?_, ?_, ?_⟩
  · rw [valueAt_stored, if_neg (by decide), valueAt_stored, if_neg (by decide), valueAt_stored, if_pos rfl]
  · rw [valueAt_stored, if_neg (by decide), valueAt_stored, if_pos rfl]
  · rw [valueAt_stored, if_pos rfl]
theorem AllI.of {vs : List Value} {ns : List Int} (x : IntsAre vs ns) : AllI vs := by
  induction x with
  | nil => intro v hv; cases hv
  | cons n t _ ih => intro v hv; rcases List.mem_cons.mp hv with rfl | hv
                     · exact ⟨_, _, rfl⟩
                     · exact ih v hv
theorem law_stock_spec {w : World} {A : Around} {E : Value → Shared → Prop} {s : Shared} {Q : Value → Shared → Prop} {g : G} {l : Addr} {vs : List Value} (R : Room A 20 80) (B : Bs w g) (hg : Le g s.heap.get?)
    (hl : ∀ h : Heap, Le g h.get? → h.IsList l vs.toArray) (hv : AllI vs) (hz : vs.length ≤ 63)
    (hQ : ∀ D ca X g' h' tb, Stk w D ca X → Grow g s.heap.get? g' h' → (∀ p ∈ X, h'.get? p.1 = some p.2 ∧ g' p.1 = none ∧ s.heap.get? p.1 = none) → (X.map Prod.fst).Nodup → Q (.ref D) { s with heap := h', toks := tb }) : wpAny (model Pw w) A (call (.ref 96) [.ref l]) Q E s := by
  refine enterM (mu := []) (fr := s.heap.get?) (binds := [(Str.ofString "script", .ref l)]) R B hg (Le.refl _) (fun _ h => nomatch h) List.nodup_nil (by k_is) (by k_is) (BindsTo.of_eq rfl) (locs rfl) (fun L h₁ S => ?_)
  have zz : (16777216 : Nat) = sizeLine := sizeLine_eq.symm
  have hd1 := R.hd
  refine wpAny_execs_cons ?_
  refine rCompA (cl := []) ?_ (by rfl) (by rfl)
  refine Subscript_ ?_; refine ldL (by assumption) (by first | rfl | assumption) ?_; try dsimp only
  refine rUpto (by decide) S (hl _ S.le) (by exact om_151 hz zz) fun sa h' tb S => ?_
  obtain ⟨g1, le1, hl1, S⟩ := S.frz
  have hv1 : AllI (vs.take (40 : Int).toNat) := fun v h => hv v (List.mem_of_mem_take h)
  have hz1 : (vs.take (40 : Int).toNat).length ≤ 63 := by rw [List.length_take]; exact om_152
  refine compLB hd1 S hl1 (by exact om_153 zz hz1) (J := fun i _ ys => ys.length = i ∧ ∃ ns, IntsAre ys ns) ⟨rfl, [], .nil⟩ ?_ ?_
  · intro h0 i v g' ys C mc Y h tk KY KN hKY hKN hi hvi hJ hys hle hm S
    obtain ⟨n, t, rfl⟩ := hv1 v (List.mem_of_getElem? hvi)
    obtain ⟨hyl, ns, hJ⟩ := hJ
    refine wpAny_tests_nil ?_
    rw [if_pos rfl]
    refine wpAny_BinOp ?_; refine wpAny_Call_NameR ?_; refine ldB (by assumption) (by assumption) (bnAll _ rfl) (btAll rfl) (by decide) ?_
    refine PyProof.Rows.callWith_builtin1 ?_; refine wpAny_items_cons ?_; refine wpAny_Call_NameR ?_
    refine ldB (by assumption) (by assumption) (bnAll _ rfl) (btAll rfl) (by decide) ?_; refine PyProof.Rows.callWith_type1 ?_; refine wpAny_items_cons ?_
    refine ldL (by assumption) (by first | rfl | assumption) ?_; refine wpAny_items_nil ?_; try dsimp only
    refine call_int_int ?_
    refine wpAny_items_nil ?_; try dsimp only
    refine call_abs_int fun u tk => ?_
    refine wpAny_BinOp ?_; refine rInt fun _ _ => ?_; refine rInt fun _ _ => ?_; try dsimp only
    refine pow_int_small (by decide) (by decide) (by decide) ?_
    try dsimp only
    refine mod_int' (by decide) ?_
    exact hKY _ _ _ _ _ (Le.refl _) S ⟨by simp [hyl], _, hJ.append (.cons _ _ .nil)⟩
  · intro ca g' ys k h tk hJ hle S
    obtain ⟨hyl, ns, hJ⟩ := hJ
    refine wpAny_execs_cons ?_; refine wpAny_Return_some ?_; try dsimp only
    refine rDictDisp B S (by rfl) (by rfl) (by decide) (by decide) fun D o h' nm hd S => ?_
    have zc : ys.length ≤ 63 := by exact om_154 hz1 hyl
    refine pairTrees_cons_walk ?_
    refine rStr fun _ _ => ?_; refine ldL (by assumption) (by first | rfl | assumption) ?_; try dsimp only
    refine pairTrees_cons_walk ?_
    refine rStr fun _ _ => ?_; refine UnaryOp_ ?_; refine rInt fun _ _ => ?_; refine neg_int ?_; try dsimp only
    refine pairTrees_cons_walk ?_
    refine rStr fun _ _ => ?_; refine wpAny_BinOp ?_; refine rInt fun _ _ => ?_; refine wpAny_BinOp ?_; refine wpAny_Call_NameR ?_
    refine ldB (by assumption) (by assumption) (bnAll _ rfl) (btAll rfl) (by decide) ?_; refine PyProof.Rows.callWith_builtin1 ?_; refine wpAny_items_cons ?_
    refine ldL (by assumption) (by first | rfl | assumption) ?_; refine wpAny_items_nil ?_; try dsimp only
    refine rSum hd1 S ⟨_, S.mt _ (.tail _ (.head _)), rfl, _, rfl⟩ hJ fun h' t tb S => ?_
    refine rInt fun _ _ => ?_; try dsimp only
    refine mod_int' (by decide) ?_
    refine rAddI fun _ _ => ?_; try dsimp only
    refine pairTrees_nil_walk ?_
    refine ⟨[(Str.ofString "cells", _), (Str.ofString "now", _), (Str.ofString "tail", _)], _, _, _, _, rfl, ⟨strKind_is _ _ _ _, rfl, strKind_is _ _ _ _, rfl, strKind_is _ _ _ _, rfl, trivial⟩, S, fun o' h2 tk2 hd2 S => ?_⟩
    have e : merged ([] : List (Str × Value)) = fun x => x.foldl (fun acc kv => stored acc kv.1 kv.2) [] := rfl
    have hS : Stk w D ca [(D, o'), (ca, lsOf ys k)] := .mk ⟨_, hd2, ?_, ?_, ?_, ?_⟩ (fun v hv => ?_) zc
    · exact hQ D ca _ _ _ _ hS S.gr (fun p hp => ⟨S.mt p hp, S.gm p hp, S.fm p hp⟩) S.nd
    · exact Nat.le_trans (merged_length_le _ _) (by simp)
    · exact (st3 _ _ _).1
    · exact ⟨_, _, (st3 _ _ _).2.1⟩
    · exact ⟨_, _, (st3 _ _ _).2.2⟩
    · exact AllI.of hJ v hv


-- part S15
theorem bases_obj (w : World) : ∃ t0 t1 t2 t3 n, (hd.heap_39 w.params).lookup 91 = some (tupOf [.str (Str.ofString "TEA") t0, .str (Str.ofString "") t1, .str (Str.ofString "BOAT") t2, .str (Str.ofString "TEA") t3] n) := ⟨_, _, _, _, _, by k_is⟩
inductive Mut (w : World) (g : G) (D ca TD : Addr) (tab : Tab) : List (Addr × Obj) → Prop
  | mk {oD : Obj} {cv : List Value} {k : Nat} {oT : Obj} : StockO w oD ca → AllI cv → cv.length ≤ 63 → TabO w g oT tab → Mut w g D ca TD tab [(D, oD), (ca, lsOf cv k), (TD, oT)]
theorem Mut.fst {w : World} {g : G} {D ca TD : Addr} {tab : Tab} {X : List (Addr × Obj)} (x : Mut w g D ca TD tab X) : X.map Prod.fst = [D, ca, TD] := by cases x; rfl
noncomputable def TabK (tab : Tab) : Prop := ∀ (i : Nat) (p : Int × Str × Bool), tab[i]? = some p → 3 * (i : Int) < p.1 ∧ p.1 ≤ 3 * i + 3
theorem TabK.new {tab : Tab} (x : TabK tab) {n : Int} (h : 3 * (tab.length : Int) < n) : ∀ q ∈ tab, q.1 ≠ n := fun q hq => by
  obtain ⟨i, hi, rfl⟩ := List.getElem_of_mem hq
  have := x i _ (List.getElem?_eq_getElem hi)
  exact om_155 h hi this
theorem TabK.add {tab : Tab} (x : TabK tab) {n : Int} {b : Str} {r : Bool} (h : 3 * (tab.length : Int) < n) (h2 : n ≤ 3 * tab.length + 3) : TabK (tab ++ [(n, b, r)]) := fun i p e => by
  rcases Nat.lt_or_ge i tab.length with hi | hi
  · rw [List.getElem?_append_left hi] at e; exact x i p e
  · rw [List.getElem?_append_right hi] at e
    rcases Nat.eq_zero_or_pos (i - tab.length) with q | q
    · rw [q] at e; simp only [List.getElem?_cons_zero, Option.some.injEq] at e
      subst e
      have : i = tab.length := by exact om_115 hi q
      subst this
      exact ⟨h, h2⟩
    · rw [List.getElem?_eq_none (by simp; exact om_108 q)] at e; cases e
theorem lookup_none {tab : Tab} {n : Int} (h : ∀ q ∈ tab, q.1 ≠ n) : tab.lookup n = none := by
  induction tab with
  | nil => rfl
  | cons q r ih =>
    obtain ⟨a, b⟩ := q
    have h1 : a ≠ n := h (a, b) (.head _)
    rw [List.lookup_cons]
    have : (n == a) = false := by simpa using Ne.symm h1
    rw [this]
    exact ih fun q hq => h q (.tail _ hq)
theorem lookup_add {tab : Tab} {n m : Int} {e : Str × Bool} : (tab ++ [(n, e)]).lookup m = (tab.lookup m).or (if m = n then some e else none) := by
  induction tab with
  | nil =>
    rw [List.nil_append, List.lookup_cons]
    by_cases h : m = n
    · subst h; simp
    · have : (m == n) = false := by simpa using h
      rw [this]; simp [h]
  | cons q r ih =>
    obtain ⟨a, b⟩ := q
    rw [List.cons_append, List.lookup_cons, List.lookup_cons, ih]
    cases m == a <;> simp
theorem TabO.add {w : World} {g : G} {o' : Obj} {tab : Tab} {kvs : List (Int × Value)} {n : Int} {b : Str} {r : Bool} {v : Value} (hk : kvs.map (·.1) = tab.map (·.1)) (hl : ∀ n b r, tab.lookup n = some (b, r) → ∃ v, valueAt kvs n = some v ∧ EntAt g v b r)
    (hd : o'.IsDictOf (PySem.intKind Pw w) (stored kvs n v)) (hn : ∀ q ∈ tab, q.1 ≠ n) (he : EntAt g v b r) : TabO w g o' (tab ++ [(n, b, r)]) := by
  have hno : kvs.any (fun kv => decide (kv.1 = n)) = false := by
    rw [List.any_eq_false]
    intro p hp q
    have : p.1 ∈ tab.map (·.1) := hk ▸ List.mem_map_of_mem hp
    obtain ⟨t, ht, e⟩ := List.mem_map.mp this
    exact hn t ht (e.trans (of_decide_eq_true q))
  have hs : stored kvs n v = kvs ++ [(n, v)] := by unfold stored; rw [hno]; rfl
  refine ⟨_, hd, by rw [hs]; simp [hk], fun m b' r' e => ?_⟩
  rw [valueAt_stored]
  rw [lookup_add] at e
  by_cases hm : n = m
  · subst hm
    rw [lookup_none hn] at e
    simp only [if_true, Option.none_or, Option.some.injEq, Prod.mk.injEq] at e
    obtain ⟨rfl, rfl⟩ := e
    exact ⟨v, by rw [if_pos rfl], he⟩
  · rw [if_neg (Ne.symm hm), Option.or_none] at e
    obtain ⟨u, h1, h2⟩ := hl _ _ _ e
    exact ⟨u, by rw [if_neg hm]; exact h1, h2⟩
theorem rPart {w : World} {A : Around} {E : Value → Shared → Prop} {s : Shared} {Q : Value → Shared → Prop} {g0 fr g : G} {L D ca : Addr} {m : Str → Option Value} {X Y : List (Addr × Obj)} {most : Int} {tm : Tok} (R : Room A 10 40) (B : Bs w g0) (S : St g0 fr g L m (X ++ Y) s.heap)
    (hX : Stk w D ca X) (h0 : 0 < most) (h1 : most < 100)
    (h : ∀ r t X' h' tb, 0 ≤ r → r < most → Stk w D ca X' → St g0 fr g L m (X' ++ Y) h' → Q (.int r t) { s with heap := h', toks := tb }) : wpAny (model Pw w) A (call (.ref 103) [.ref D, .int most tm]) Q E s := by
  have nd := S.nd
  rw [List.map_append] at nd
  exact law_part_spec R (B.mono S.le0) S.le hX (fun p hp => ⟨S.mt p (List.mem_append.mpr (.inl hp)), S.gm p (List.mem_append.mpr (.inl hp))⟩) (List.nodup_append.mp nd).1 h0 h1 fun r t X' h' tb r0 r1 hX' C ht => h r t X' h' tb r0 r1 hX' (S.callM C (hX'.fst.trans hX.fst.symm) ht)

theorem law_letter_spec {w : World} {A : Around} {E : Value → Shared → Prop} {s : Shared} {Q : Value → Shared → Prop} {g : G} {D ca TD l : Addr} {X : List (Addr × Obj)} {tab : Tab} {vs : List Value} {ks : List T} (R : Room A 20 80) (B : Bs w g) (hg : Le g s.heap.get?)
    (hX : Mut w g D ca TD tab X) (nm : (TD == sysModules) = false) (hk : TabK tab) (hz : tab.length ≤ 60) (hm : ∀ p ∈ X, s.heap.get? p.1 = some p.2 ∧ g p.1 = none) (hnd : (X.map Prod.fst).Nodup) (hl : LsG g l vs) (hv : LTs g vs ks)
    (hQ : ∀ r n b rr X' g' h' tb, 3 * (tab.length : Int) < n → n ≤ 3 * tab.length + 3 → LT g' r (.mk n ks) → Mut w g' D ca TD (tab ++ [(n, b, rr)]) X' → MG g s.heap (X.map Prod.fst) g' h' → (∀ p ∈ X', h'.get? p.1 = some p.2) → Q r { s with heap := h', toks := tb }) : wpAny (model Pw w) A (call (.ref 110) [.ref D, .ref TD, .ref l]) Q E s := by
  have hfs := hX.fst
  refine enterM (mu := X) (fr := off s.heap.get? (X.map Prod.fst)) (binds := [(Str.ofString "stock", .ref D), (Str.ofString "table", .ref TD), (Str.ofString "kids", .ref l)]) R B hg (off_le _ _) (fun p hp => ⟨(hm p hp).1, (hm p hp).2, by unfold off; rw [if_pos (List.mem_map_of_mem hp)]⟩) hnd (by k_is) (by k_is) (BindsTo.of_eq rfl) (locs rfl) (fun L h₁ S => ?_)
  have hd1 := R.hd
  have R1 : ∀ env, Room (A.deeper env) 19 77 := fun _ => R.deeper (by exact om_28) (by exact om_156)
  have hfin : ∀ {g' m X' h' tab'}, St g (off s.heap.get? (X.map Prod.fst)) g' L m X' h' → Mut w g' D ca TD tab' X' → MG g s.heap (X.map Prod.fst) g' h' := fun S hX' => S.toMG (hX'.fst.trans hfs.symm)
  have zz : (16777216 : Nat) = sizeLine := sizeLine_eq.symm
  cases hX with
  | @mk oD cv k oT hO hA hc hT =>
  obtain ⟨kvs, hd, hkk, hll⟩ := hT
  have zk : kvs.length = tab.length := by have := congrArg List.length hkk; simpa using this
  have hXs := Stk.mk (w := w) (D := D) (k := k) hO hA hc
  refine wpAny_execs_cons ?_; refine wpAny_Assign_Name ?_; refine wpAny_BinOp ?_; refine wpAny_BinOp ?_; refine wpAny_BinOp ?_; refine wpAny_Call_NameR ?_
  refine ldB (by assumption) (by assumption) (bnAll _ rfl) (btAll rfl) (by decide) ?_; refine PyProof.Rows.callWith_builtin1 ?_; refine wpAny_items_cons ?_
  refine ldL (by assumption) (by first | rfl | assumption) ?_; refine wpAny_items_nil ?_; try dsimp only
  refine rLenD nm (S.mt _ (.tail _ (.tail _ (.head _)))) hd (by exact om_157 hz zk) fun t1 tb => ?_
  refine rInt fun _ _ => ?_; try dsimp only
  refine PySem.P.mul_int ?_ (IntMulOk.of_right (by decide))
  refine rInt fun _ _ => ?_; refine rAddI fun _ _ => ?_; refine wpAny_Call_NameR ?_; refine ldG (by assumption) (by assumption) (gnAll _ rfl) ?_
  refine callWith_K (St.kin (by assumption) (by assumption)) (kpAll _ _ (by decide)) ?_; refine wpAny_items_cons ?_
  refine ldL (by assumption) (by first | rfl | assumption) ?_; refine wpAny_items_cons ?_; refine rInt fun _ _ => ?_; refine wpAny_items_nil ?_
  refine keepB (by assumption) (by assumption) ?_; try dsimp only
  refine rPart (X := [(D, oD), (ca, lsOf cv k)]) (Y := [(TD, oT)]) ((R1 _).le (by exact om_158) (by exact om_159)) B S hXs (by decide) (by decide) fun r1 t1 X1 h' tb p1 p2 hXs S => ?_
  refine rAddI fun _ _ => ?_; refine stL (by assumption) fun _ _ => ?_; refine wpAny_execs_cons ?_; refine wpAny_Assign_Subscript ?_; refine Tuple_ ?_
  refine wpAny_items_cons ?_; refine ldL (by assumption) (by first | rfl | assumption) ?_; refine wpAny_items_cons ?_; refine rStr fun _ _ => ?_
  refine wpAny_items_cons ?_; refine List_ ?_; refine wpAny_items_nil ?_; try dsimp only
  rename St _ _ _ _ _ _ _ => S
  have zk2 : kvs.length ≤ 1000 := by exact om_157 hz zk
  generalize hnum : (kvs.length : Int) * 3 + 1 + r1 = num at *
  refine rNewList S (Nat.le_of_ble_eq_true rfl) fun ea h' S => ?_
  obtain ⟨g1, le1, _, S⟩ := S.frz
  refine wpAny_items_cons ?_; refine wpAny_Call_NameR ?_; refine ldG (by assumption) (by assumption) (gnAll _ rfl) ?_
  refine callWith_K (St.kin (by assumption) (by assumption)) (kpAll _ _ (by decide)) ?_; refine wpAny_items_cons ?_
  refine ldL (by assumption) (by first | rfl | assumption) ?_; refine wpAny_items_cons ?_; refine rInt fun _ _ => ?_; refine wpAny_items_nil ?_
  refine keepB (by assumption) (by assumption) ?_; try dsimp only
  refine rPart ((R1 _).le (by exact om_158) (by exact om_159)) B S hXs (by decide) (by decide) fun r2 t2 X2 h' tb _ _ hXs S => ?_
  refine wpAny_items_cons ?_; refine Subscript_ ?_; refine ldG (by assumption) (by assumption) (gnAll _ rfl) ?_; refine wpAny_Call_NameR ?_
  refine ldG (by assumption) (by assumption) (gnAll _ rfl) ?_; refine callWith_K (St.kin (by assumption) (by assumption)) (kpAll _ _ (by decide)) ?_
  refine wpAny_items_cons ?_; refine ldL (by assumption) (by first | rfl | assumption) ?_; refine wpAny_items_cons ?_; refine rInt fun _ _ => ?_
  refine wpAny_items_nil ?_; refine keepB (by assumption) (by assumption) ?_; try dsimp only
  refine rPart ((R1 _).le (by exact om_158) (by exact om_159)) B S hXs (by decide) (by decide) fun r3 t3 X3 h' tb p3 p4 hXs S => ?_
  obtain ⟨u0, u1, u2, u3, nn, hb⟩ := bases_obj w
  have hbT : IsTup h' 91 [.str (Str.ofString "TEA") u0, .str (Str.ofString "") u1, .str (Str.ofString "BOAT") u2, .str (Str.ofString "TEA") u3].toArray := ⟨_, S.kin B _ _ hb, rfl, _, rfl⟩
  have hj : seqIndex? r3 4 = some r3.toNat := by unfold seqIndex?; simp; (first | with_reducible assumption | with_reducible exact Int.natCast_nonneg _ | omega)
  obtain ⟨bb, tb3, hbb⟩ : ∃ bb tb3, [Value.str (Str.ofString "TEA") u0, .str (Str.ofString "") u1, .str (Str.ofString "BOAT") u2, .str (Str.ofString "TEA") u3][r3.toNat]? = some (.str bb tb3) := by
    rcases (by exact om_160 p3 p4 : r3 = 0 ∨ r3 = 1 ∨ r3 = 2 ∨ r3 = 3) with rfl | rfl | rfl | rfl <;> exact ⟨_, _, rfl⟩
  refine rItemT hbT (by exact om_161 p3) (by exact om_162 p4) hj hbb ?_
  refine wpAny_items_cons ?_; refine wpAny_Compare1 ?_; refine wpAny_Call_NameR ?_; refine ldG (by assumption) (by assumption) (gnAll _ rfl) ?_
  refine callWith_K (St.kin (by assumption) (by assumption)) (kpAll _ _ (by decide)) ?_; refine wpAny_items_cons ?_
  refine ldL (by assumption) (by first | rfl | assumption) ?_; refine wpAny_items_cons ?_; refine rInt fun _ _ => ?_; refine wpAny_items_nil ?_
  refine keepB (by assumption) (by assumption) ?_; try dsimp only
  refine rPart ((R1 _).le (by exact om_158) (by exact om_159)) B S hXs (by decide) (by decide) fun r4 t4 X4 h' tb _ _ hXs S => ?_
  refine rInt fun _ _ => ?_; refine eq_int ?_; refine wpAny_items_nil ?_; try dsimp only
  refine rNewTuple S (Nat.le_of_ble_eq_true rfl) fun ta h' g2 le2 ht2 S => ?_
  refine ldL (by assumption) (by first | rfl | assumption) ?_; refine ldL (by assumption) (by first | rfl | assumption) ?_; try dsimp only
  refine rPutV (kvs := kvs) S hd (fun _ => .app .here) (intKind_is _ _ _ _) (by exact om_163 zz zk2) fun h' o' tb hd' S => ?_
  refine wpAny_execs_cons ?_; refine wpAny_Return_some ?_; refine Tuple_ ?_; refine wpAny_items_cons ?_; refine ldL (by assumption) (by first | rfl | assumption) ?_
  refine wpAny_items_cons ?_; refine ldL (by assumption) (by first | rfl | assumption) ?_; refine wpAny_items_nil ?_; try dsimp only
  refine rNewTuple S (Nat.le_of_ble_eq_true rfl) fun tr h' g3 le3 ht3 S => ?_
  have le5 := (le1.trans le2).trans le3
  have hn1 : 3 * (tab.length : Int) < num := by exact om_164 zk p1 hnum
  have hT : TabO w g3 o' (tab ++ [(num, bb, r4 == 0)]) := TabO.add hkk (fun n b r e => let ⟨v, e1, e2⟩ := hll n b r e; ⟨v, e1, e2.mono le5⟩) hd' (hk.new hn1) ⟨ta, _, _, _, _, _, rfl, ht2.mono le3⟩
  cases hXs with
  | @mk oD4 cv4 k4 hO4 hA4 hc4 =>
  have hM : Mut w g3 D ca TD (tab ++ [(num, bb, r4 == 0)]) [(D, oD4), (ca, lsOf cv4 k4), (TD, o')] := .mk hO4 hA4 hc4 hT
  exact hQ _ _ _ _ _ _ _ _ hn1 (by exact om_165 zk p2 hnum) (.mk ht3 (hl.mono le5) (hv.mono le5)) hM (hfin S hM) S.mt


-- part S16
theorem rLetter {w : World} {A : Around} {E : Value → Shared → Prop} {s : Shared} {Q : Value → Shared → Prop} {g0 fr g : G} {L D ca TD l : Addr} {m : Str → Option Value} {X Y : List (Addr × Obj)} {tab : Tab} {vs : List Value} {ks : List T} (R : Room A 20 80) (B : Bs w g0) (S : St g0 fr g L m (X ++ Y) s.heap)
    (hX : Mut w g D ca TD tab X) (nm : (TD == sysModules) = false) (hk : TabK tab) (hz : tab.length ≤ 60) (hl : LsG g l vs) (hv : LTs g vs ks)
    (h : ∀ r n b rr X' g' h' tb, 0 < n → Le g g' → LT g' r (.mk n ks) → Mut w g' D ca TD (tab ++ [(n, b, rr)]) X' → TabK (tab ++ [(n, b, rr)]) → St g0 fr g' L m (X' ++ Y) h' → Q r { s with heap := h', toks := tb }) : wpAny (model Pw w) A (call (.ref 110) [.ref D, .ref TD, .ref l]) Q E s := by
  have nd := S.nd
  rw [List.map_append] at nd
  exact law_letter_spec R (B.mono S.le0) S.le hX nm hk hz (fun p hp => ⟨S.mt p (List.mem_append.mpr (.inl hp)), S.gm p (List.mem_append.mpr (.inl hp))⟩) (List.nodup_append.mp nd).1 hl hv fun r n b rr X' g' h' tb n0 n1 hr hX' C ht => h r n b rr X' g' h' tb (by exact om_166 n0) C.gr.le hr hX' (hk.add n0 n1) (S.callM C (hX'.fst.trans hX.fst.symm) ht)

structure TreeOf (more : Tab) (t : T) : Prop where
  root : t.n > 0 ∨ (t.n = 0 ∧ t.ks ≠ [])
  look : ∃ b r, more.lookup t.key = some (b, r)
  size : t.size ≤ 6
  perm : List.Perm ((t.pre.map T.n).filter fun n => decide (0 < n)) (more.map (·.1))
  few : more.length ≤ 4

theorem look_last (l : Tab) (n : Int) (b : Str) (r : Bool) : ∃ b' r', (l ++ [(n, b, r)]).lookup n = some (b', r') := by
  rw [lookup_add, if_pos rfl]
  cases e : l.lookup n with
  | none => exact ⟨b, r, rfl⟩
  | some p => exact ⟨p.1, p.2, rfl⟩
theorem tree0 {n : Int} {b : Str} {r : Bool} (h : 0 < n) : TreeOf [(n, b, r)] (.mk n []) :=
  ⟨.inl h, ⟨b, r, by simp [T.key, h, List.lookup]⟩, by simp [T.size, sizes], by simp [T.pre, pres, T.n, h], by simp⟩
theorem tree1 {n f : Int} {b c : Str} {r q : Bool} (h : 0 < n) (h1 : 0 < f) : TreeOf [(f, c, q), (n, b, r)] (.mk n [.mk f []]) :=
  ⟨.inl h, by
    have e : T.key (.mk n [.mk f []]) = n := by simp [T.key, h]
    rw [e]; exact look_last [(f, c, q)] n b r, by simp [T.size, sizes], by simp [T.pre, pres, T.n, h, h1]; exact List.Perm.swap _ _ _, by simp⟩
theorem tree3 {o f : Int} {b c : Str} {r q : Bool} (h : 0 < o) (h1 : 0 < f) : TreeOf [(f, c, q), (o, b, r)] (.mk 0 [.mk f [], .mk o []]) :=
  ⟨.inr ⟨rfl, by simp [T.ks]⟩, ⟨c, q, by simp [T.key, T.n, List.lookup_cons]⟩, by simp [T.size, sizes], by simp [T.pre, pres, T.n, h, h1], by simp⟩
theorem tree2 {f o x n : Int} {b1 b2 b3 b4 : Str} {r1 r2 r3 r4 : Bool} (h1 : 0 < f) (h2 : 0 < o) (h3 : 0 < x) (h4 : 0 < n) : TreeOf [(f, b1, r1), (o, b2, r2), (x, b3, r3), (n, b4, r4)] (.mk n [.mk f [], .mk 0 [.mk o [], .mk x []]]) :=
  ⟨.inl h4, by
    have e : T.key (.mk n [.mk f [], .mk 0 [.mk o [], .mk x []]]) = n := by simp [T.key, h4]
    rw [e]
    exact look_last [(f, b1, r1), (o, b2, r2), (x, b3, r3)] n b4 r4, by simp [T.size, sizes], by simp [T.pre, pres, T.n, h1, h2, h3, h4]; exact List.perm_append_comm (l₁ := [n]) (l₂ := [f, o, x]), by simp⟩
theorem tree4 {f o x n : Int} {b1 b2 b3 b4 : Str} {r1 r2 r3 r4 : Bool} (h1 : 0 < f) (h2 : 0 < o) (h3 : 0 < x) (h4 : 0 < n) : TreeOf [(f, b1, r1), (o, b2, r2), (x, b3, r3), (n, b4, r4)] (.mk 0 [.mk f [], .mk 0 [.mk o [], .mk x []], .mk n []]) :=
  ⟨.inr ⟨rfl, by simp [T.ks]⟩, ⟨b1, r1, by simp [T.key, T.n, List.lookup_cons]⟩, by simp [T.size, sizes], by simp [T.pre, pres, T.n, h1, h2, h3, h4], by simp⟩

theorem law_tree_spec {w : World} {A : Around} {E : Value → Shared → Prop} {s : Shared} {Q : Value → Shared → Prop} {g : G} {D ca TD : Addr} {X : List (Addr × Obj)} {tab : Tab} {shape : Int} {tsh : Tok} (R : Room A 30 120) (B : Bs w g) (hg : Le g s.heap.get?)
    (hX : Mut w g D ca TD tab X) (nm : (TD == sysModules) = false) (hk : TabK tab) (hz : tab.length ≤ 50) (hm : ∀ p ∈ X, s.heap.get? p.1 = some p.2 ∧ g p.1 = none) (hnd : (X.map Prod.fst).Nodup) (h0 : 0 ≤ shape) (h5 : shape < 5)
    (hQ : ∀ r t more X' g' h' tb, LT g' r t → TreeOf more t → TabK (tab ++ more) → Mut w g' D ca TD (tab ++ more) X' → MG g s.heap (X.map Prod.fst) g' h' → (∀ p ∈ X', h'.get? p.1 = some p.2) → Q r { s with heap := h', toks := tb }) : wpAny (model Pw w) A (call (.ref 117) [.ref D, .ref TD, .int shape tsh]) Q E s := by
  have hfs := hX.fst
  refine enterM (mu := X) (fr := off s.heap.get? (X.map Prod.fst)) (binds := [(Str.ofString "stock", .ref D), (Str.ofString "table", .ref TD), (Str.ofString "shape", .int shape tsh)]) R B hg (off_le _ _) (fun p hp => ⟨(hm p hp).1, (hm p hp).2, by unfold off; rw [if_pos (List.mem_map_of_mem hp)]⟩) hnd (by k_is) (by k_is) (BindsTo.of_eq rfl) (locs rfl) (fun L h₁ S => ?_)
  have hd1 := R.hd
  have R1 : ∀ env, Room (A.deeper env) 20 80 := fun _ => R.deeper (by exact om_36) (by exact om_37)
  have hfin : ∀ {g' m X' h' tab'}, St g (off s.heap.get? (X.map Prod.fst)) g' L m X' h' → Mut w g' D ca TD tab' X' → MG g s.heap (X.map Prod.fst) g' h' := fun S hX' => S.toMG (hX'.fst.trans hfs.symm)
  have zz : (16777216 : Nat) = sizeLine := sizeLine_eq.symm
  have S : St g (off s.heap.get? (X.map Prod.fst)) g L (fun y => List.lookup y [(Str.ofString "stock", Value.ref D), (Str.ofString "table", .ref TD), (Str.ofString "shape", .int shape tsh)].reverse) (X ++ []) h₁ := by rw [List.append_nil]; exact S
  refine wpAny_execs_cons ?_; refine wpAny_If ?_; refine wpAny_isTrue_Compare1 ?_; refine ldL (by assumption) (by first | rfl | assumption) ?_
  refine rInt fun _ _ => ?_; refine eq_int ?_; refine wpAny_truthy_bool ?_; try dsimp only
  by_cases c0 : shape = 0
  · subst c0
    rw [if_pos (by decide)]
    refine wpAny_execs_cons ?_; refine wpAny_Return_some ?_; refine wpAny_Call_NameR ?_; refine ldG (by assumption) (by assumption) (gnAll _ rfl) ?_
    refine callWith_K (St.kin (by assumption) (by assumption)) (kpAll _ _ (by decide)) ?_; refine wpAny_items_cons ?_
    refine ldL (by assumption) (by first | rfl | assumption) ?_; refine wpAny_items_cons ?_; refine ldL (by assumption) (by first | rfl | assumption) ?_
    refine wpAny_items_cons ?_; refine List_ ?_; refine wpAny_items_nil ?_; try dsimp only
    refine rNewList S (Nat.le_of_ble_eq_true rfl) fun l0 h' S => ?_
    obtain ⟨g1, le1, hl1, S⟩ := S.frz
    refine wpAny_items_nil ?_; refine keepB (by assumption) (by assumption) ?_; try dsimp only
    have hX : Mut w g1 D ca TD tab X := by cases hX with | mk a b c d => exact .mk a b c (d.mono le1)
    refine rLetter (R1 _) B S hX nm hk (by exact om_167 hz) hl1 .nil fun r n b rr X' g' h' tb n0 le2 hr hX' hk' S => ?_
    rw [List.append_nil] at S
    exact hQ _ _ _ _ _ _ _ hr (tree0 n0) hk' hX' (hfin S hX') S.mt
  rw [if_neg (by simpa using c0)]
  have grow : ∀ {g g' : G} {X : List (Addr × Obj)} {tab : Tab}, Le g g' → Mut w g D ca TD tab X → Mut w g' D ca TD tab X := fun k hX => by cases hX with | mk a b c d => exact .mk a b c (d.mono k)
  refine wpAny_execs_nil ?_; refine wpAny_execs_cons ?_; refine wpAny_Assign_Name ?_; refine wpAny_Call_NameR ?_
  refine ldG (by assumption) (by assumption) (gnAll _ rfl) ?_; refine callWith_K (St.kin (by assumption) (by assumption)) (kpAll _ _ (by decide)) ?_
  refine wpAny_items_cons ?_; refine ldL (by assumption) (by first | rfl | assumption) ?_; refine wpAny_items_cons ?_
  refine ldL (by assumption) (by first | rfl | assumption) ?_; refine wpAny_items_cons ?_; refine List_ ?_; refine wpAny_items_nil ?_; try dsimp only
  refine rNewList S (Nat.le_of_ble_eq_true rfl) fun l0 h' S => ?_
  obtain ⟨g1, le1, hl1, S⟩ := S.frz
  refine wpAny_items_nil ?_; refine keepB (by assumption) (by assumption) ?_; try dsimp only
  refine rLetter (R1 _) B S (grow le1 hX) nm hk (by exact om_167 hz) hl1 .nil fun vf nf bf rf X1 g2 h' tb nf0 le2 hvf hX1 hk1 S => ?_
  refine stL (by assumption) fun _ _ => ?_; refine wpAny_execs_cons ?_; refine wpAny_If ?_; refine wpAny_isTrue_Compare1 ?_
  refine ldL (by assumption) (by first | rfl | assumption) ?_; refine rInt fun _ _ => ?_; refine eq_int ?_; refine wpAny_truthy_bool ?_; try dsimp only
  rename St _ _ _ _ _ _ _ => S
  by_cases c1 : shape = 1
  · subst c1
    rw [if_pos (by decide)]
    refine wpAny_execs_cons ?_; refine wpAny_Return_some ?_; refine wpAny_Call_NameR ?_; refine ldG (by assumption) (by assumption) (gnAll _ rfl) ?_
    refine callWith_K (St.kin (by assumption) (by assumption)) (kpAll _ _ (by decide)) ?_; refine wpAny_items_cons ?_
    refine ldL (by assumption) (by first | rfl | assumption) ?_; refine wpAny_items_cons ?_; refine ldL (by assumption) (by first | rfl | assumption) ?_
    refine wpAny_items_cons ?_; refine List_ ?_; refine wpAny_items_cons ?_; refine ldL (by assumption) (by first | rfl | assumption) ?_; refine wpAny_items_nil ?_
    try dsimp only
    refine rNewList S (Nat.le_of_ble_eq_true rfl) fun l1 h' S => ?_
    obtain ⟨g3, le3, hl3, S⟩ := S.frz
    refine wpAny_items_nil ?_; refine keepB (by assumption) (by assumption) ?_; try dsimp only
    refine rLetter (R1 _) B S (grow le3 hX1) nm hk1 (by simp; exact om_168 hz) hl3 (.cons (hvf.mono le3) .nil) fun r n b rr X' g' h' tb n0 le4 hr hX' hk' S => ?_
    rw [List.append_nil] at S
    rw [List.append_assoc] at hX' hk'
    exact hQ _ _ _ _ _ _ _ hr (tree1 n0 nf0) hk' hX' (hfin S hX') S.mt
  rw [if_neg (by simpa using c1)]
  refine wpAny_execs_nil ?_; refine wpAny_execs_cons ?_; refine wpAny_Assign_Name ?_; refine wpAny_Call_NameR ?_
  refine ldG (by assumption) (by assumption) (gnAll _ rfl) ?_; refine callWith_K (St.kin (by assumption) (by assumption)) (kpAll _ _ (by decide)) ?_
  refine wpAny_items_cons ?_; refine ldL (by assumption) (by first | rfl | assumption) ?_; refine wpAny_items_cons ?_
  refine ldL (by assumption) (by first | rfl | assumption) ?_; refine wpAny_items_cons ?_; refine List_ ?_; refine wpAny_items_nil ?_; try dsimp only
  refine rNewList S (Nat.le_of_ble_eq_true rfl) fun l2 h' S => ?_
  obtain ⟨g3, le3, hl3, S⟩ := S.frz
  refine wpAny_items_nil ?_; refine keepB (by assumption) (by assumption) ?_; try dsimp only
  refine rLetter (R1 _) B S (grow le3 hX1) nm hk1 (by simp; exact om_168 hz) hl3 .nil fun vo no bo ro X2 g4 h' tb no0 le4 hvo hX2 hk2 S => ?_
  refine stL (by assumption) fun _ _ => ?_; refine wpAny_execs_cons ?_; refine wpAny_If ?_; refine wpAny_isTrue_Compare1 ?_
  refine ldL (by assumption) (by first | rfl | assumption) ?_; refine rInt fun _ _ => ?_; refine eq_int ?_; refine wpAny_truthy_bool ?_; try dsimp only
  rename St _ _ _ _ _ _ _ => S
  have hvf := hvf.mono (le3.trans le4)
  by_cases c3 : shape = 3
  · subst c3
    rw [if_pos (by decide)]
    refine wpAny_execs_cons ?_; refine wpAny_Return_some ?_; refine Tuple_ ?_; refine wpAny_items_cons ?_; refine rInt fun _ _ => ?_; refine wpAny_items_cons ?_
    refine List_ ?_; refine wpAny_items_cons ?_; refine ldL (by assumption) (by first | rfl | assumption) ?_; refine wpAny_items_cons ?_
    refine ldL (by assumption) (by first | rfl | assumption) ?_; refine wpAny_items_nil ?_; try dsimp only
    refine rNewList S (Nat.le_of_ble_eq_true rfl) fun l1 h' S => ?_
    obtain ⟨g5, le5, hl5, S⟩ := S.frz
    refine wpAny_items_nil ?_; try dsimp only
    refine rNewTuple S (Nat.le_of_ble_eq_true rfl) fun tt h' g6 le6 ht6 S => ?_
    rw [List.append_nil] at S
    rw [List.append_assoc] at hX2 hk2
    have hX2 := grow (le5.trans le6) hX2
    exact hQ _ _ _ _ _ _ _ (.mk ht6 (hl5.mono le6) (.cons (hvf.mono (le5.trans le6)) (.cons (hvo.mono (le5.trans le6)) .nil))) (tree3 no0 nf0) hk2 hX2 (hfin S hX2) S.mt
  rw [if_neg (by simpa using c3)]
  refine wpAny_execs_nil ?_; refine wpAny_execs_cons ?_; refine wpAny_Assign_Name ?_; refine Tuple_ ?_; refine wpAny_items_cons ?_; refine rInt fun _ _ => ?_
  refine wpAny_items_cons ?_; refine List_ ?_; refine wpAny_items_cons ?_; refine ldL (by assumption) (by first | rfl | assumption) ?_; refine wpAny_items_cons ?_
  refine wpAny_Call_NameR ?_; refine ldG (by assumption) (by assumption) (gnAll _ rfl) ?_
  refine callWith_K (St.kin (by assumption) (by assumption)) (kpAll _ _ (by decide)) ?_; refine wpAny_items_cons ?_
  refine ldL (by assumption) (by first | rfl | assumption) ?_; refine wpAny_items_cons ?_; refine ldL (by assumption) (by first | rfl | assumption) ?_
  refine wpAny_items_cons ?_; refine List_ ?_; refine wpAny_items_nil ?_; try dsimp only
  refine rNewList S (Nat.le_of_ble_eq_true rfl) fun l4 h' S => ?_
  obtain ⟨g5, le5, hl5, S⟩ := S.frz
  refine wpAny_items_nil ?_; refine keepB (by assumption) (by assumption) ?_; try dsimp only
  refine rLetter (R1 _) B S (grow le5 hX2) nm hk2 (by simp; exact om_169 hz) hl5 .nil fun vx nx bx rx X3 g6 h' tb nx0 le6 hvx hX3 hk3 S => ?_
  refine wpAny_items_nil ?_; try dsimp only
  refine rNewList S (Nat.le_of_ble_eq_true rfl) fun l5 h' S => ?_
  obtain ⟨g7, le7, hl7, S⟩ := S.frz
  refine wpAny_items_nil ?_; try dsimp only
  refine rNewTuple S (Nat.le_of_ble_eq_true rfl) fun tp h' g8 le8 ht8 S => ?_
  refine stL (by assumption) fun _ _ => ?_; refine wpAny_execs_cons ?_; refine wpAny_Assign_Name ?_; refine wpAny_Call_NameR ?_
  refine ldG (by assumption) (by assumption) (gnAll _ rfl) ?_; refine callWith_K (St.kin (by assumption) (by assumption)) (kpAll _ _ (by decide)) ?_
  refine wpAny_items_cons ?_; refine ldL (by assumption) (by first | rfl | assumption) ?_; refine wpAny_items_cons ?_
  refine ldL (by assumption) (by first | rfl | assumption) ?_; refine wpAny_items_cons ?_; refine IfExp_ ?_; refine wpAny_isTrue_Compare1 ?_
  refine ldL (by assumption) (by first | rfl | assumption) ?_; refine rInt fun _ _ => ?_; refine eq_int ?_; refine wpAny_truthy_bool ?_; try dsimp only
  rename St _ _ _ _ _ _ _ => S
  have lea := le7.trans le8
  have leb := (le5.trans le6).trans lea
  have hvf := hvf.mono leb
  have hvp : LT g8 (.ref tp) (.mk 0 [.mk no [], .mk nx []]) := .mk ht8 (hl7.mono le8) (.cons (hvo.mono leb) (.cons (hvx.mono lea) .nil))
  have hX3 := grow lea hX3
  by_cases c2 : shape = 2
  · subst c2
    rw [if_pos (by decide)]
    refine List_ ?_; refine wpAny_items_cons ?_; refine ldL (by assumption) (by first | rfl | assumption) ?_; refine wpAny_items_cons ?_
    refine ldL (by assumption) (by first | rfl | assumption) ?_; refine wpAny_items_nil ?_; try dsimp only
    refine rNewList S (Nat.le_of_ble_eq_true rfl) fun l6 h' S => ?_
    obtain ⟨g9, le9, hl9, S⟩ := S.frz
    refine wpAny_items_nil ?_; refine keepB (by assumption) (by assumption) ?_; try dsimp only
    refine rLetter (R1 _) B S (grow le9 hX3) nm hk3 (by simp; exact om_170 hz) hl9 (.cons (hvf.mono le9) (.cons (hvp.mono le9) .nil)) fun r n b rr X' g' h' tb n0 le10 hr hX' hk' S => ?_
    refine stL (by assumption) fun _ _ => ?_; refine wpAny_execs_cons ?_; refine wpAny_Return_some ?_; refine IfExp_ ?_; refine wpAny_isTrue_Compare1 ?_
    refine ldL (by assumption) (by first | rfl | assumption) ?_; refine rInt fun _ _ => ?_; refine eq_int ?_; refine wpAny_truthy_bool ?_; try dsimp only
    rename St _ _ _ _ _ _ _ => S
    rw [if_pos (by decide)]
    refine ldL (by assumption) (by first | rfl | assumption) ?_; try dsimp only
    rw [List.append_nil] at S
    simp only [List.append_assoc] at hX' hk'
    exact hQ _ _ _ _ _ _ _ hr (tree2 nf0 no0 nx0 n0) hk' hX' (hfin S hX') S.mt
  · have c4 : shape = 4 := by exact om_171 h0 h5 c0 c1 c3 c2
    subst c4
    rw [if_neg (by decide)]
    refine List_ ?_; refine wpAny_items_nil ?_; try dsimp only
    refine rNewList S (Nat.le_of_ble_eq_true rfl) fun l6 h' S => ?_
    obtain ⟨g9, le9, hl9, S⟩ := S.frz
    refine wpAny_items_nil ?_; refine keepB (by assumption) (by assumption) ?_; try dsimp only
    refine rLetter (R1 _) B S (grow le9 hX3) nm hk3 (by simp; exact om_170 hz) hl9 .nil fun r n b rr X' g' h' tb n0 le10 hr hX' hk' S => ?_
    refine stL (by assumption) fun _ _ => ?_; refine wpAny_execs_cons ?_; refine wpAny_Return_some ?_; refine IfExp_ ?_; refine wpAny_isTrue_Compare1 ?_
    refine ldL (by assumption) (by first | rfl | assumption) ?_; refine rInt fun _ _ => ?_; refine eq_int ?_; refine wpAny_truthy_bool ?_; try dsimp only
    rename St _ _ _ _ _ _ _ => S
    rw [if_neg (by decide)]
    refine Tuple_ ?_; refine wpAny_items_cons ?_; refine rInt fun _ _ => ?_; refine wpAny_items_cons ?_; refine List_ ?_; refine wpAny_items_cons ?_
    refine ldL (by assumption) (by first | rfl | assumption) ?_; refine wpAny_items_cons ?_; refine ldL (by assumption) (by first | rfl | assumption) ?_
    refine wpAny_items_cons ?_; refine ldL (by assumption) (by first | rfl | assumption) ?_; refine wpAny_items_nil ?_; try dsimp only
    refine rNewList S (Nat.le_of_ble_eq_true rfl) fun l7 h' S => ?_
    obtain ⟨g11, le11, hl11, S⟩ := S.frz
    refine wpAny_items_nil ?_; try dsimp only
    refine rNewTuple S (Nat.le_of_ble_eq_true rfl) fun tq h' g12 le12 ht12 S => ?_
    rw [List.append_nil] at S
    simp only [List.append_assoc] at hX' hk'
    have lec := le11.trans le12
    have led := (le9.trans le10).trans lec
    have hX' := grow lec hX'
    exact hQ _ _ _ _ _ _ _ (.mk ht12 (hl11.mono le12) (.cons (hvf.mono led) (.cons (hvp.mono led) (.cons (hr.mono lec) .nil)))) (tree4 nf0 no0 nx0 n0) hk' hX' (hfin S hX') S.mt


-- part S17
theorem nmk (n : Int) (ks : List T) : (T.mk n ks).n = n := rfl
noncomputable def atN (ts : List T) (j : Nat) : T := (ts[j]?).getD (.mk 0 [])
theorem atN_of {ts : List T} {j : Nat} {t : T} (e : ts[j]? = some t) : atN ts j = t := by simp [atN, e]
noncomputable def alikeP (tab : Tab) (ts : List T) (b : Str) (j : Nat) : Bool := decide (b ≠ Str.ofString "") && decide ((atN ts j).base tab = b)
noncomputable def alikeN (tab : Tab) (ts : List T) (b : Str) : List Nat := (List.range ts.length).filter (alikeP tab ts b)
noncomputable def absentN (tab : Tab) (ts : List T) (b : Str) : List Nat := (alikeN tab ts b).filter fun j => decide ((atN ts j).n = 0)
noncomputable def plainN (tab : Tab) (ts : List T) (b : Str) : List Nat := (alikeN tab ts b).filter fun j => decide (0 < (atN ts j).n) && !re tab (atN ts j).n
noncomputable def repN (tab : Tab) (ts : List T) (b : Str) (i : Nat) : Nat := (absentN tab ts b ++ plainN tab ts b ++ alikeN tab ts b ++ [i]).headD 0
noncomputable def foldT (tab : Tab) (ts : List T) (i : Nat) (l : List Nat) : T := l.foldl (fun acc o => if o = i then acc else joinT tab acc (atN ts o)) (atN ts i)
noncomputable def lawG (tab : Tab) (ts : List T) : Nat → List T
  | 0 => []
  | i + 1 => lawG tab ts i ++ (if repN tab ts ((atN ts i).base tab) i = i then [foldT tab ts i (alikeN tab ts ((atN ts i).base tab))] else [])
noncomputable def lawGatherT (tab : Tab) (ts : List T) : List T := lawG tab ts ts.length

theorem alikeN_mem {tab : Tab} {ts : List T} {b : Str} {j : Nat} (h : j ∈ alikeN tab ts b) : j < ts.length ∧ b ≠ Str.ofString "" ∧ (atN ts j).base tab = b := by
  simp only [alikeN, List.mem_filter, List.mem_range, alikeP, Bool.and_eq_true, decide_eq_true_eq] at h
  exact ⟨h.1, h.2.1, h.2.2⟩
theorem IA_get {vs : List Value} {ns : List Nat} (x : IntsAre vs (ns.map fun n => ((n : Nat) : Int))) {i : Nat} {v : Value} (e : vs[i]? = some v) : ∃ j t, ns[i]? = some j ∧ v = .int ((j : Nat) : Int) t := by
  induction ns generalizing vs i with
  | nil => cases x; simp at e
  | cons n r ih =>
    cases x with
    | cons _ t x =>
      cases i with
      | zero => simp at e; subst e; exact ⟨n, t, rfl, rfl⟩
      | succ i => simp at e; obtain ⟨j, t', h1, h2⟩ := ih x e; exact ⟨j, t', by simpa using h1, h2⟩
theorem IA_len {vs : List Value} {ns : List Nat} (x : IntsAre vs (ns.map fun n => ((n : Nat) : Int))) : vs.length = ns.length := by have := x.length; simpa using this
theorem LTs.at' {g : G} {vs : List Value} {ts : List T} (x : LTs g vs ts) {i : Nat} {t : T} (e : ts[i]? = some t) : ∃ v, vs[i]? = some v ∧ LT g v t := by
  have h1 : i < ts.length := (List.getElem?_eq_some_iff.mp e).1
  have h2 : i < vs.length := by rw [x.len]; exact h1
  have h3 : vs[i]? = some vs[i] := List.getElem?_eq_getElem h2
  obtain ⟨t', h4, h5⟩ := x.get h3
  rw [e] at h4; cases h4
  exact ⟨_, h3, h5⟩
theorem wpPost {α : Type} {A : Around} {s : Shared} {M : Model} {t : Sem α} {Q : α → Shared → Prop} {E : Value → Shared → Prop} (h : ∀ K : α → Shared → Prop, (∀ v s', Q v s' → K v s') → wpAny M A t K E s) : wpAny M A t Q E s := h Q fun _ _ q => q
theorem range_fs (p : Nat → Bool) (i : Nat) : (List.range (i + 1)).filter p = (List.range i).filter p ++ (if p i then [i] else []) := by
  rw [List.range_succ, List.filter_append]; congr 1
  cases h : p i <;> simp [h]
theorem take_fs {l : List Nat} (p : Nat → Bool) {i j : Nat} (e : l[i]? = some j) : (l.take (i + 1)).filter p = (l.take i).filter p ++ (if p j then [j] else []) := by
  rw [take_one e, List.filter_append]; congr 1
  cases h : p j <;> simp [h]

set_option maxHeartbeats 2000000 in
theorem law_gathered_spec {w : World} {A : Around} {E : Value → Shared → Prop} {s : Shared} {Q : Value → Shared → Prop} {g : G} {l d : Addr} {vs : List Value} {ts : List T} {tab : Tab} (R : Room A 40 160) (B : Bs w g) (hg : Le g s.heap.get?)
    (hl : LsG g l vs) (hv : LTs g vs ts) (ht : TabG w g d tab) (hok : ∀ t ∈ ts, OkT tab t) (hz : ts.length ≤ 1000) (hz2 : ∀ t ∈ ts, t.size ≤ 1000)
    (hQ : ∀ r vs' g' h' tb, Grow g s.heap.get? g' h' → LsG g' r vs' → LTs g' vs' (lawGatherT tab ts) → Q (.ref r) { s with heap := h', toks := tb }) : wpAny (model Pw w) A (call (.ref 153) [.ref l, .ref d]) Q E s := by
  have zz : (16777216 : Nat) = sizeLine := sizeLine_eq.symm
  refine wpAny_call (enterCC (binds := [(Str.ofString "trees", .ref l), (Str.ofString "table", .ref d)]) R B hg (by k_is) (by k_is) (by rfl) ?_ ?_ fun L h₁ tk oc hoc S => ?_)
  · intro L x hx
    rcases List.mem_cons.mp hx with rfl | hx
    · exact .inr ⟨rfl, rfl⟩
    · rw [List.mem_singleton.mp hx]; exact .inr ⟨rfl, rfl⟩
  · intro L p hp
    simp [cellsFrom] at hp
    rcases hp with rfl | rfl | rfl <;> rfl
  have d1 : (oc (Str.ofString "trees")).data = .cell (some (.ref l)) := hoc (Str.ofString "trees", L + 1) (.tail _ (.tail _ (.head _)))
  have d2 : (oc (Str.ofString "table")).data = .cell (some (.ref d)) := hoc (Str.ofString "table", L + 1 + 1) (.tail _ (.head _))
  have d3 : (oc (Str.ofString "base")).data = .cell none := hoc (Str.ofString "base", L + 1 + 1 + 1) (.head _)
  have S : St g s.heap.get? g L (fun y => none) [(L + 1 + 1 + 1, oc (Str.ofString "base")), (L + 1 + 1, oc (Str.ofString "table")), (L + 1, oc (Str.ofString "trees"))] h₁ := S
  generalize oc (Str.ofString "trees") = o1 at *
  generalize oc (Str.ofString "table") = o2 at *
  generalize oc (Str.ofString "base") = o3 at *
  clear hoc
  have R1 : ∀ env, Room (A.deeper env) 39 157 := fun _ => R.deeper (by exact om_172) (by exact om_173)
  have hd1 : A.handled = none := R.hd
  have zl := hv.len
  refine wpAny_execs_cons ?_; refine wpAny_Assign_Name ?_; refine List_ ?_; refine wpAny_items_nil ?_; try dsimp only
  refine rNewList S (Nat.le_of_ble_eq_true rfl) fun fa h' S => ?_
  refine stL (by assumption) fun _ _ => ?_; refine wpAny_execs_cons ?_; refine wpAny_For ?_; refine wpAny_Call_NameR ?_
  refine ldB (by assumption) (by assumption) (bnAll _ rfl) (btAll rfl) (by decide) ?_; refine PyProof.Rows.callWith_type1 ?_; refine wpAny_items_cons ?_
  refine ldC (by assumption) rfl (by repeat (first | exact List.Mem.head _ | refine List.Mem.tail _ ?_)) (by first | rfl | assumption) ?_; refine wpAny_items_nil ?_
  try dsimp only
  rename St _ _ _ _ _ _ _ => S
  refine forE (J := fun i g' m' mu' => ∃ fv k ob vb, mu' = [(fa, lsOf fv k), (L + 1 + 1 + 1, ob), (L + 1 + 1, o2), (L + 1, o1)] ∧ ob.data = .cell vb ∧ m' (Str.ofString "found") = some (.ref fa) ∧ LTs g' fv (lawG tab ts i) ∧ fv.length ≤ i) hd1 S hl ⟨_, _, o3, _, rfl, d3, rfl, .nil, Nat.le_refl _⟩ ?_ ?_
  · intro i tt v g' m' mq1 X h tk KK hKK hvi hJJ hle S
    refine hide fun PP kP => ?_
    obtain ⟨fv, kf, ob, vb, rfl, db, hm1, hfv, zf⟩ := hJJ
    refine kP ?_
    clear kP PP
    obtain ⟨t, hti, hN⟩ := hv.get hvi
    have hOk := hok t (List.mem_of_getElem? hti)
    have hil : i < ts.length := (List.getElem?_eq_some_iff.mp hti).1
    refine wpAny_execs_cons ?_; refine wpAny_Assign_Name ?_; refine wpAny_Call_NameR ?_; refine ldG (by assumption) (by assumption) (gnAll _ rfl) ?_
    refine callWith_K (St.kin (by assumption) (by assumption)) (kpAll _ _ (by decide)) ?_; refine wpAny_items_cons ?_
    refine ldL (by assumption) (by first | rfl | assumption) ?_; refine wpAny_items_cons ?_
    refine ldC (by assumption) rfl (by repeat (first | exact List.Mem.head _ | refine List.Mem.tail _ ?_)) (by first | rfl | assumption) ?_; refine wpAny_items_nil ?_
    refine keepB (by assumption) (by assumption) ?_; try dsimp only
    refine law_base_spec ((R1 _).le (by exact om_174) (by exact om_175)) (B.mono hle) S.le (hN.mono hle) (ht.mono hle) hOk.at hOk.ne fun tk2 h' tb XX => ?_
    have S := S.call XX
    refine stC S rfl (fun _ => .there .here) db fun h' ob db S => ?_
    refine wpAny_execs_cons ?_; try dsimp only
    refine rCompA (cl := [(Str.ofString "trees", L + 1), (Str.ofString "table", L + 1 + 1), (Str.ofString "base", L + 1 + 1 + 1)]) ?_ (by rfl) (by rfl)
    refine wpAny_Call_NameR ?_; refine ldB (by assumption) (by assumption) (bnAll _ rfl) (btAll rfl) (by decide) ?_; refine PyProof.Rows.callWith_type1 ?_
    refine wpAny_items_cons ?_; refine wpAny_Call_NameR ?_; refine ldB (by assumption) (by assumption) (bnAll _ rfl) (btAll rfl) (by decide) ?_
    refine PyProof.Rows.callWith_builtin1 ?_; refine wpAny_items_cons ?_
    refine ldC (by assumption) rfl (by repeat (first | exact List.Mem.head _ | refine List.Mem.tail _ ?_)) (by first | rfl | assumption) ?_; refine wpAny_items_nil ?_
    try dsimp only
    rename St _ _ _ _ _ _ _ => S
    refine rLenL ((hl.mono hle).at S.le) (by exact om_176 hz zl) fun t1 tb => ?_
    refine wpAny_items_nil ?_; try dsimp only
    refine rRange1 S fun rg h' g3 tb le4 hrg S => ?_
    have le5 := hle.trans le4
    generalize hbs : t.base tab = b at *
    refine compRB hd1 S hrg (rs_up (by exact om_58)) (sm_up (by exact om_58) (by exact om_177 hz zl)) (by exact om_178 hz zz zl) (J := fun i _ ys => IntsAre ys (((List.range i).filter (alikeP tab ts b)).map fun n => ((n : Nat) : Int))) .nil ?_ ?_
    · intro h0 j v2 g'' ys C mc Y h tk KY KN hKY hKN hj hvj hJ hys hle2 hm S
      obtain ⟨tj, rfl⟩ := hvj
      obtain ⟨u, hu⟩ : ∃ u, ts[j]? = some u := ⟨_, List.getElem?_eq_getElem (by exact om_179 zl hj)⟩
      obtain ⟨vu, hvu, hNu⟩ := hv.at' hu
      have hOku := hok u (List.mem_of_getElem? hu)
      have le6 := le5.trans hle2
      have ej : (0 : Int) + (j : Nat) * 1 = (j : Nat) := by exact om_180
      rw [ej] at hm
      dsimp only
      refine wpAny_tests_one ?_
      have ea : atN ts j = u := atN_of hu
      refine wpAny_isTrue_BoolOp ?_; refine wpAny_allTrue_And_cons ?_; refine wpAny_isTrue_Compare1 ?_
      refine ldC (by assumption) rfl (by repeat (first | exact List.Mem.head _ | refine List.Mem.tail _ ?_)) (by first | rfl | assumption) ?_; refine rStr fun _ _ => ?_
      refine rNeStr ?_; refine wpAny_truthy_bool ?_; try dsimp only
      by_cases hb : b = Str.ofString ""
      · rw [if_neg (by simp [hb])]
        rw [if_neg (by simp)]
        have e : alikeP tab ts b j = false := by simp [alikeP, hb]
        exact hKN _ _ _ _ (Le.refl _) S (by dsimp only; rw [range_fs, e]; simpa using hJ)
      · rw [if_pos (by simp [hb])]
        refine wpAny_allTrue_And_cons ?_; refine wpAny_isTrue_Compare1 ?_; refine wpAny_Call_NameR ?_; refine ldG (by assumption) (by assumption) (gnAll _ rfl) ?_
        refine callWith_K (St.kin (by assumption) (by assumption)) (kpAll _ _ (by decide)) ?_; refine wpAny_items_cons ?_; refine Subscript_ ?_
        refine ldC (by assumption) rfl (by repeat (first | exact List.Mem.head _ | refine List.Mem.tail _ ?_)) (by first | rfl | assumption) ?_
        refine ldL (by assumption) (by first | rfl | assumption) ?_; try dsimp only
        refine rItemL ((hl.mono le6).at S.le) (by exact om_58) (by exact om_181 hz zl hj) (by simpa using hvu) ?_
        refine wpAny_items_cons ?_
        refine ldC (by assumption) rfl (by repeat (first | exact List.Mem.head _ | refine List.Mem.tail _ ?_)) (by first | rfl | assumption) ?_; refine wpAny_items_nil ?_
        refine keepB (by assumption) (by assumption) ?_; try dsimp only
        refine law_base_spec ((R1 _).le (by exact om_174) (by exact om_175)) (B.mono le6) S.le (hNu.mono le6) (ht.mono le6) hOku.at hOku.ne fun tk3 h' tb XX => ?_
        have S := S.call XX
        refine ldC (by assumption) rfl (by repeat (first | exact List.Mem.head _ | refine List.Mem.tail _ ?_)) (by first | rfl | assumption) ?_; refine rEqStr ?_
        refine wpAny_truthy_bool ?_; try dsimp only
        have e : alikeP tab ts b j = decide (u.base tab = b) := by simp [alikeP, hb, ea]
        by_cases hub : u.base tab = b
        · rw [if_pos (by simpa using hub)]
          refine wpAny_allTrue_And_nil ?_
          rw [if_pos rfl]
          refine ldL (by assumption) (by first | rfl | assumption) ?_; try dsimp only
          refine hKY _ _ _ _ _ (Le.refl _) S ?_
          dsimp only
          rw [range_fs, e]
          simp only [hub, decide_true, if_true, List.map_append]
          exact hJ.append (.cons _ _ .nil)
        · rw [if_neg (by simpa using hub)]
          rw [if_neg (by simp)]
          exact hKN _ _ _ _ (Le.refl _) S (by dsimp only; rw [range_fs, e]; simpa [hub] using hJ)
    intro al g4 ys k4 h tk hJ le7 S
    rw [zl] at hJ
    have hJ : IntsAre ys ((alikeN tab ts b).map fun n => ((n : Nat) : Int)) := hJ
    obtain ⟨g5, le8, hal, S⟩ := S.frz
    have le9 := (le5.trans le7).trans le8
    have zal := IA_len hJ
    have zal2 : (alikeN tab ts b).length ≤ 1000 := Nat.le_trans (List.length_filter_le _ _) (by rw [List.length_range]; exact hz)
    refine wpAny_execs_cons ?_; try dsimp only
    refine rCompA (cl := [(Str.ofString "trees", L + 1)]) ?_ (by rfl) (by rfl)
    refine ldL (by assumption) (by first | rfl | assumption) ?_; try dsimp only
    refine compLB hd1 S hal (by exact om_131 zz zal zal2) (J := fun i _ ys => IntsAre ys ((((alikeN tab ts b).take i).filter (fun j => decide ((atN ts j).n = 0))).map fun n => ((n : Nat) : Int))) .nil ?_ ?_
    · intro h0 q v2 g'' ys2 C mc Y h tk KY KN hKY hKN hq hvq hJ2 hys hle2 hm S
      obtain ⟨j, tj, hj, rfl⟩ := IA_get hJ hvq
      obtain ⟨hjl, _, _⟩ := alikeN_mem (List.mem_of_getElem? hj)
      obtain ⟨u, hu⟩ : ∃ u, ts[j]? = some u := ⟨_, List.getElem?_eq_getElem (by exact om_182 hjl)⟩
      obtain ⟨vu, hvu, hNu⟩ := hv.at' hu
      have le6 := le9.trans hle2
      have ea : atN ts j = u := atN_of hu
      dsimp only
      refine wpAny_tests_one ?_
      refine wpAny_isTrue_Compare1 ?_; refine Subscript_ ?_; refine Subscript_ ?_
      refine ldC (by assumption) rfl (by repeat (first | exact List.Mem.head _ | refine List.Mem.tail _ ?_)) (by first | rfl | assumption) ?_
      refine ldL (by assumption) (by first | rfl | assumption) ?_; try dsimp only
      refine rItemL ((hl.mono le6).at S.le) (by exact om_58) (by exact om_75 hz hjl) (by simpa using hvu) ?_
      cases hNu with
      | @mk au lu nu tnu vku kus hNu hLu hKu =>
      refine rInt fun _ _ => ?_; try dsimp only
      refine rItemT ((hNu.mono le6).at S.le) (by decide) (by decide) rfl rfl ?_
      refine rInt fun _ _ => ?_; refine eq_int ?_; refine wpAny_truthy_bool ?_; try dsimp only
      by_cases hn0 : nu = 0
      · rw [if_pos (by simpa using hn0)]
        refine ldL (by assumption) (by first | rfl | assumption) ?_; try dsimp only
        refine hKY _ _ _ _ _ (Le.refl _) S ?_
        dsimp only
        rw [take_fs _ hj, ea]
        simp only [nmk, hn0, decide_true, if_true, List.map_append]
        exact hJ2.append (.cons _ _ .nil)
      · rw [if_neg (by simpa using hn0)]
        exact hKN _ _ _ _ (Le.refl _) S (by dsimp only; rw [take_fs _ hj, ea]; simpa [nmk, hn0] using hJ2)
    intro ab g6 ys2 k5 h tk hJ2 le10 S
    rw [zal, List.take_of_length_le (Nat.le_refl _)] at hJ2
    have hJ2 : IntsAre ys2 ((absentN tab ts b).map fun n => ((n : Nat) : Int)) := hJ2
    obtain ⟨g7, le11, hab, S⟩ := S.frz
    have le12 := le10.trans le11
    have zab := IA_len hJ2
    have zab2 : (absentN tab ts b).length ≤ 1000 := Nat.le_trans (List.length_filter_le _ _) zal2
    refine wpAny_execs_cons ?_; try dsimp only
    refine rCompA (cl := [(Str.ofString "trees", L + 1), (Str.ofString "table", L + 1 + 1)]) ?_ (by rfl) (by rfl)
    refine ldL (by assumption) (by first | rfl | assumption) ?_; try dsimp only
    refine compLB hd1 S (hal.mono le12) (by exact om_131 zz zal zal2) (J := fun i _ ys => IntsAre ys ((((alikeN tab ts b).take i).filter (fun j => decide (0 < (atN ts j).n) && !re tab (atN ts j).n)).map fun n => ((n : Nat) : Int))) .nil ?_ ?_
    · intro h0 q v2 g'' ys3 C mc Y h tk KY KN hKY hKN hq hvq hJ3 hys hle2 hm S
      obtain ⟨j, tj, hj, rfl⟩ := IA_get hJ hvq
      obtain ⟨hjl, _, _⟩ := alikeN_mem (List.mem_of_getElem? hj)
      obtain ⟨u, hu⟩ : ∃ u, ts[j]? = some u := ⟨_, List.getElem?_eq_getElem (by exact om_182 hjl)⟩
      obtain ⟨vu, hvu, hNu⟩ := hv.at' hu
      have hOku := hok u (List.mem_of_getElem? hu)
      have le6 := (le9.trans le12).trans hle2
      have ea : atN ts j = u := atN_of hu
      dsimp only
      refine wpAny_tests_one ?_
      refine wpAny_isTrue_BoolOp ?_; refine wpAny_allTrue_And_cons ?_; refine wpAny_isTrue_Compare1 ?_; refine Subscript_ ?_; refine Subscript_ ?_
      refine ldC (by assumption) rfl (by repeat (first | exact List.Mem.head _ | refine List.Mem.tail _ ?_)) (by first | rfl | assumption) ?_
      refine ldL (by assumption) (by first | rfl | assumption) ?_; try dsimp only
      refine rItemL ((hl.mono le6).at S.le) (by exact om_58) (by exact om_75 hz hjl) (by simpa using hvu) ?_
      cases hNu with
      | @mk au lu nu tnu vku kus hNu hLu hKu =>
      refine rInt fun _ _ => ?_; try dsimp only
      refine rItemT ((hNu.mono le6).at S.le) (by decide) (by decide) rfl rfl ?_
      refine rInt fun _ _ => ?_; refine gt_int ?_; refine wpAny_truthy_bool ?_; try dsimp only
      by_cases hn0 : 0 < nu
      · rw [if_pos (by simpa using hn0)]
        refine wpAny_allTrue_And_cons ?_; refine wpAny_isTrue_Not ?_; refine wpAny_isTrue_value ?_; refine Subscript_ ?_; refine Subscript_ ?_
        refine ldC (by assumption) rfl (by repeat (first | exact List.Mem.head _ | refine List.Mem.tail _ ?_)) (by first | rfl | assumption) ?_; refine Subscript_ ?_
        refine Subscript_ ?_; refine ldC (by assumption) rfl (by repeat (first | exact List.Mem.head _ | refine List.Mem.tail _ ?_)) (by first | rfl | assumption) ?_
        refine ldL (by assumption) (by first | rfl | assumption) ?_; try dsimp only
        refine rItemL ((hl.mono le6).at S.le) (by exact om_58) (by exact om_75 hz hjl) (by simpa using hvu) ?_
        refine rInt fun _ _ => ?_; try dsimp only
        refine rItemT ((hNu.mono le6).at S.le) (by decide) (by decide) rfl rfl ?_
        refine rTab S (ht.mono le6) (hOku.num (by simp only [T.n]; exact om_27 hn0)) fun ve tb hE => ?_
        obtain ⟨ae, x0, x1, x2, x3, te, rfl, hE⟩ := hE
        refine rInt fun _ _ => ?_; try dsimp only
        refine rItemT (hE.at S.le) (by decide) (by decide) rfl rfl ?_
        refine wpAny_truthy_bool ?_; try dsimp only
        by_cases hre : re tab nu = true
        · rw [if_neg (by simp [nmk, hre])]
          rw [if_neg (by simp)]
          exact hKN _ _ _ _ (Le.refl _) S (by dsimp only; rw [take_fs _ hj, ea]; simpa [nmk, hn0, hre] using hJ3)
        · have hre : re tab nu = false := by simpa using hre
          rw [if_pos (by simp [nmk, hre])]
          refine wpAny_allTrue_And_nil ?_
          rw [if_pos rfl]
          refine ldL (by assumption) (by first | rfl | assumption) ?_; try dsimp only
          refine hKY _ _ _ _ _ (Le.refl _) S ?_
          dsimp only
          rw [take_fs _ hj, ea]
          simp only [nmk, hn0, hre, decide_true, Bool.not_false, Bool.and_self, if_true, List.map_append]
          exact hJ3.append (.cons _ _ .nil)
      · rw [if_neg (by simpa using hn0)]
        rw [if_neg (by simp)]
        exact hKN _ _ _ _ (Le.refl _) S (by dsimp only; rw [take_fs _ hj, ea]; simpa [nmk, hn0] using hJ3)
    intro pl g8 ys3 k6 h tk hJ3 le13 S
    rw [zal, List.take_of_length_le (Nat.le_refl _)] at hJ3
    have hJ3 : IntsAre ys3 ((plainN tab ts b).map fun n => ((n : Nat) : Int)) := hJ3
    obtain ⟨g9, le14, hpl, S⟩ := S.frz
    have le15 := le13.trans le14
    have zpl := IA_len hJ3
    have zpl2 : (plainN tab ts b).length ≤ 1000 := Nat.le_trans (List.length_filter_le _ _) zal2
    have leA := (le9.trans le12).trans le15
    have leA' : Le g' g9 := (((le4.trans le7).trans le8).trans le12).trans le15
    obtain ⟨c1, q1⟩ := id (hab.mono le15)
    obtain ⟨c2, q2⟩ := id hpl
    obtain ⟨c3, q3⟩ := id (hal.mono (le12.trans le15))
    refine wpAny_execs_cons ?_; refine wpAny_If ?_; refine wpAny_isTrue_Compare1 ?_; refine Subscript_ ?_; refine wpAny_BinOp ?_; refine wpAny_BinOp ?_
    refine wpAny_BinOp ?_; refine ldL (by assumption) (by first | rfl | assumption) ?_; refine ldL (by assumption) (by first | rfl | assumption) ?_; try dsimp only
    refine rAddL S (S.le _ _ q1) (S.le _ _ q2) (by exact om_183 zz zab zab2 zpl zpl2) fun x1 h' S => ?_
    refine ldL (by assumption) (by first | rfl | assumption) ?_; try dsimp only
    refine rAddL S (S.mt _ (.head _)) (S.le _ _ q3) (by simp; exact om_184 zz zal zal2 zab zab2 zpl zpl2) fun x2 h' S => ?_
    refine List_ ?_; refine wpAny_items_cons ?_; refine ldL (by assumption) (by first | rfl | assumption) ?_; refine wpAny_items_nil ?_; try dsimp only
    refine rNewList S (Nat.le_of_ble_eq_true rfl) fun x3 h' S => ?_
    refine rAddL S (S.mt _ (.tail _ (.head _))) (S.mt _ (.head _)) (by simp; exact om_185 zz zal zal2 zab zab2 zpl zpl2) fun x4 h' S => ?_
    refine rInt fun _ _ => ?_; try dsimp only
    have hall : IntsAre (ys2 ++ ys3 ++ ys ++ [Value.int (i : Nat) tt]) ((absentN tab ts b ++ plainN tab ts b ++ alikeN tab ts b ++ [i]).map fun n => ((n : Nat) : Int)) := by
      simp only [List.map_append]
      exact ((hJ2.append hJ3).append hJ).append (.cons _ _ .nil)
    obtain ⟨v0, hv0⟩ : ∃ v0, (ys2 ++ ys3 ++ ys ++ [Value.int (i : Nat) tt])[0]? = some v0 := ⟨_, List.getElem?_eq_getElem (by simp; exact om_186)⟩
    obtain ⟨j0, t0, hj0, rfl⟩ := IA_get hall hv0
    have hrep : repN tab ts b i = j0 := by
      unfold repN
      cases e : absentN tab ts b ++ plainN tab ts b ++ alikeN tab ts b ++ [i] with
      | nil => rw [e] at hj0; cases hj0
      | cons a r => rw [e] at hj0; simpa using hj0
    refine rItemL ⟨_, S.mt _ (.head _), rfl, _, rfl⟩ (by exact om_141) (by exact om_142) (by simpa using hv0) ?_
    refine ldL (by assumption) (by first | rfl | assumption) ?_; refine eq_int ?_; refine wpAny_truthy_bool ?_; try dsimp only
    have ei : atN ts i = t := atN_of hti
    have e3 : lawG tab ts (i + 1) = lawG tab ts i ++ (if repN tab ts b i = i then [foldT tab ts i (alikeN tab ts b)] else []) := by simp only [lawG, ei, hbs]
    rw [hrep] at e3
    have S := S.sub (.cons _ (.cons _ (.cons _ (.cons _ (List.Sublist.refl _)))))
    by_cases hji : j0 = i
    · rw [if_pos (by simp [hji])]
      rw [if_pos hji] at e3
      have habs : t.n ≠ 0 → ∀ j ∈ alikeN tab ts b, (atN ts j).n ≠ 0 := fun hn j hjm h0 => by
        have hm : j ∈ absentN tab ts b := List.mem_filter.mpr ⟨hjm, by simpa using h0⟩
        cases e : absentN tab ts b with
        | nil => rw [e] at hm; cases hm
        | cons a r =>
          have h1 : repN tab ts b i = a := by unfold repN; rw [e]; rfl
          have h2 : a ∈ absentN tab ts b := by rw [e]; exact .head _
          have h3 := (List.mem_filter.mp h2).2
          rw [hrep, hji] at h1
          subst h1
          rw [ei] at h3
          exact hn (by simpa using h3)
      refine wpAny_execs_cons ?_; refine wpAny_For ?_; refine ldL (by assumption) (by first | rfl | assumption) ?_; try dsimp only
      rename St _ _ _ _ _ _ _ => S
      refine forL (J := fun q g'' m'' mu'' => mu'' = (fa, lsOf fv kf) :: (L + 1 + 1 + 1, ob) :: (L + 1 + 1, o2) :: (L + 1, o1) :: X ∧ ∃ vt acc tt, m'' (Str.ofString "found") = some (.ref fa) ∧ m'' (Str.ofString "spot") = some (.int (i : Nat) tt) ∧ m'' (Str.ofString "tree") = some vt ∧ LT g'' vt acc ∧ acc = foldT tab ts i ((alikeN tab ts b).take q) ∧ (acc.n ≠ 0 → acc.n = t.n) ∧ acc.size ≤ 1001 * (q + 1)) hd1 S (hal.mono (le12.trans le15)) ⟨rfl, v, t, tt, hm1, rfl, rfl, hN.mono leA, ?_, fun _ => rfl, ?_⟩ ?_ ?_
      · simp [foldT, ei]
      · have := hz2 t (List.mem_of_getElem? hti); exact om_81 this
      · intro q v2 g'' m'' mq1 X2 h tk KK hKK hvq hJJ hle2 S
        refine hide fun PP kP => ?_
        obtain ⟨rfl, vt, acc, tt2, hm2, hm3, hm4, hacc, eacc, han, haz⟩ := hJJ
        refine kP ?_
        clear kP PP
        obtain ⟨j, tj, hj, rfl⟩ := IA_get hJ hvq
        have hjm := List.mem_of_getElem? hj
        obtain ⟨hjl, _, _⟩ := alikeN_mem hjm
        have hql : q < (alikeN tab ts b).length := (List.getElem?_eq_some_iff.mp hj).1
        obtain ⟨u, hu⟩ : ∃ u, ts[j]? = some u := ⟨_, List.getElem?_eq_getElem (by exact om_182 hjl)⟩
        obtain ⟨vu, hvu, hNu⟩ := hv.at' hu
        have hOku := hok u (List.mem_of_getElem? hu)
        have le6 := leA.trans hle2
        have ea : atN ts j = u := atN_of hu
        have ef : foldT tab ts i ((alikeN tab ts b).take (q + 1)) = if j = i then acc else joinT tab acc u := by
          rw [take_one hj, eacc]; simp [foldT, List.foldl_append, ea]
        refine PyProof.Rows.assign_Name ?_; refine stL (by assumption) fun _ _ => ?_; refine wpAny_execs_cons ?_; refine wpAny_Assign_Name ?_; refine IfExp_ ?_
        refine wpAny_isTrue_Compare1 ?_; refine ldL (by assumption) (by first | rfl | assumption) ?_; refine ldL (by assumption) (by first | rfl | assumption) ?_
        refine ne_int ?_; refine wpAny_truthy_bool ?_; try dsimp only
        rename St _ _ _ _ _ _ _ => S
        by_cases hjI : j = i
        · rw [if_neg (by simp [hjI])]
          refine ldL (by assumption) (by first | rfl | assumption) ?_; refine stL (by assumption) fun _ _ => ?_; refine wpAny_execs_nil ?_; try dsimp only
          rename St _ _ _ _ _ _ _ => S
          refine hKK g'' (fun y => if y = Str.ofString "tree" then some vt else if y = Str.ofString "other" then some (.int (j : Nat) tj) else m'' y) _ _ _ (Le.refl _) S ⟨rfl, vt, acc, tt2, hm2, hm3, rfl, hacc, ?_, han, by exact om_82 haz⟩
          rw [ef, if_pos hjI]
        · rw [if_pos (by simp; exact om_187 hjI)]
          refine wpAny_Call_NameR ?_; refine ldG (by assumption) (by assumption) (gnAll _ rfl) ?_
          refine callWith_K (St.kin (by assumption) (by assumption)) (kpAll _ _ (by decide)) ?_; refine wpAny_items_cons ?_
          refine ldL (by assumption) (by first | rfl | assumption) ?_; refine wpAny_items_cons ?_; refine Subscript_ ?_
          refine ldC (by assumption) rfl (by repeat (first | exact List.Mem.head _ | refine List.Mem.tail _ ?_)) (by first | rfl | assumption) ?_
          refine ldL (by assumption) (by first | rfl | assumption) ?_; try dsimp only
          refine rItemL ((hl.mono le6).at S.le) (by exact om_58) (by exact om_75 hz hjl) (by simpa using hvu) ?_
          refine wpAny_items_cons ?_
          refine ldC (by assumption) rfl (by repeat (first | exact List.Mem.head _ | refine List.Mem.tail _ ?_)) (by first | rfl | assumption) ?_; refine wpAny_items_nil ?_
          refine keepB (by assumption) (by assumption) ?_; try dsimp only
          have zu := hz2 u (List.mem_of_getElem? hu)
          refine law_joined_spec ((R1 _).le (by exact om_188) (by exact om_189)) (B.mono le6) S.le hacc (hNu.mono le6) (ht.mono le6) (fun q0 => ?_) ?_ fun r g10 h' tb XX hr => ?_
          · have hn1 := han q0
            have hu0 := habs (by rw [← hn1]; exact q0) j hjm
            rw [ea] at hu0
            exact ⟨by rcases hOku.1 with q1 | q1 <;> (first | with_reducible assumption | with_reducible exact Int.natCast_nonneg _ | omega), ⟨_, _, hn1 ▸ hOk.num (by rw [← hn1]; exact q0)⟩, _, _, hOku.num hu0⟩
          · have h1 : acc.ks.length ≤ acc.size := by cases acc with | mk n ks => have := len_sizes ks; simp only [T.ks, T.size]; exact om_48 this
            have h2 : u.ks.length ≤ u.size := by cases u with | mk n ks => have := len_sizes ks; simp only [T.ks, T.size]; exact om_48 this
            have h3 : 1001 * (q + 1) ≤ 1001 * 1001 := Nat.mul_le_mul_left _ (by exact om_94 zal2 hql)
            exact om_95 zz haz zu h1 h2 h3
          have S := S.call XX
          have zj := joinT_size tab acc u
          refine stL (by assumption) fun _ _ => ?_; refine wpAny_execs_nil ?_; try dsimp only
          rename St _ _ _ _ _ _ _ => S
          refine hKK g10 (fun y => if y = Str.ofString "tree" then some r else if y = Str.ofString "other" then some (.int (j : Nat) tj) else m'' y) _ _ _ XX.le S ⟨rfl, r, joinT tab acc u, tt2, hm2, hm3, rfl, hr, ?_, fun h0 => ?_, by exact om_190 haz zu zj⟩
          · rw [ef, if_neg hjI]
          · have e5 := joinT_n tab acc u h0
            rw [e5] at h0 ⊢
            exact han h0
      · intro g'' m'' mq1 h tk hJJ hle2 S
        refine hide fun PP kP => ?_
        obtain ⟨rfl, vt, acc, tt2, hm2, hm3, hm4, hacc, eacc, han, haz⟩ := hJJ
        refine kP ?_
        clear kP PP
        rw [zal, List.take_of_length_le (Nat.le_refl _)] at eacc
        refine wpAny_execs_cons ?_; refine wpAny_Expr ?_; refine MethodCall_ ?_; refine ldL (by assumption) (by first | rfl | assumption) ?_; try dsimp only
        refine rMethL (S.mt _ (.head _)) PySem.F.slot_list_append PySem.F.type_list_append ?_
        refine PyProof.Rows.callWith_method1 ?_; refine wpAny_items_cons ?_; refine ldL (by assumption) (by first | rfl | assumption) ?_; refine wpAny_items_nil ?_
        try dsimp only
        refine rAppend S .here (by exact om_76 hz zz zf hil) fun h' S => ?_
        refine wpAny_execs_nil ?_; refine wpAny_execs_nil ?_; try dsimp only
        refine hKK g'' m'' [(fa, lsOf (fv ++ [vt]) (kf + 1)), (L + 1 + 1 + 1, ob), (L + 1 + 1, o2), (L + 1, o1)] _ _ (leA'.trans hle2) S ⟨_, _, ob, _, rfl, db, hm2, (by rw [e3]; exact (hfv.mono (leA'.trans hle2)).app (.cons (eacc ▸ hacc) .nil)), by simp; exact om_16 zf⟩
    · rw [if_neg (by simp; exact om_187 hji)]
      rw [if_neg hji, List.append_nil] at e3
      refine wpAny_execs_nil ?_; refine wpAny_execs_nil ?_; try dsimp only
      exact hKK _ _ [(fa, lsOf fv kf), (L + 1 + 1 + 1, ob), (L + 1 + 1, o2), (L + 1, o1)] _ _ leA' S ⟨fv, kf, ob, _, rfl, db, hm1, (by rw [e3]; exact hfv.mono leA'), by exact om_7 zf⟩
  · intro g' m' mq1 h tk hJJ hle S
    refine hide fun PP kP => ?_
    obtain ⟨fv, kf, ob, vb, rfl, db, hm1, hfv, zf⟩ := hJJ
    refine kP ?_
    clear kP PP
    refine wpAny_execs_cons ?_; refine wpAny_Return_some ?_; refine ldL (by assumption) (by first | rfl | assumption) ?_; try dsimp only
    obtain ⟨g3, le3, hl3, S⟩ := S.frz
    rw [zl] at hfv
    exact hQ _ _ _ _ _ S.gr hl3 (hfv.mono le3)


-- part F15
mutual
noncomputable def T.data : T → PyData
  | .mk n ks => .tuple [.int n, .tuple (datas ks)]
noncomputable def datas : List T → List PyData
  | [] => []
  | t :: ts => t.data :: datas ts
end
mutual
theorem data_lay : ∀ t : T, t.data.canLay0 = true
  | .mk n ks => by simp [T.data, PyData.canLay0, PyData.canLayAll0, datas_lay ks]
theorem datas_lay : ∀ ts : List T, PyData.canLayAll0 (datas ts) = true
  | [] => by simp [datas, PyData.canLayAll0]
  | t :: ts => by simp [datas, PyData.canLayAll0, data_lay t, datas_lay ts]
end
mutual
theorem data_depth : ∀ t : T, t.data.depth ≤ 2 * t.size
  | .mk n ks => by
    have := datas_depth ks
    simp [T.data, PyData.depth, PyData.depthAll, T.size]; exact om_191 this
theorem datas_depth : ∀ ts : List T, PyData.depthAll (datas ts) ≤ 2 * sizes ts
  | [] => by simp [datas, PyData.depthAll]
  | t :: ts => by
    have h1 := data_depth t
    have h2 := datas_depth ts
    simp [datas, PyData.depthAll, sizes]; exact om_192 h1 h2
end
mutual
theorem TT.reads {g : G} {h : Heap} (k : Le g h.get?) : ∀ {v t}, TT g v t → ∃ as, Reads h v t.data as
  | _, _, .mk (n := n) (tn := tn) a b c => by
    obtain ⟨as, r⟩ := TTs.reads k c
    obtain ⟨c1, e1⟩ := a
    obtain ⟨c2, e2⟩ := b
    exact ⟨_, .tuple (k _ _ e1) rfl rfl (.cons (.int n tn) (.cons (.tuple (k _ _ e2) rfl rfl r) .nil))⟩
theorem TTs.reads {g : G} {h : Heap} (k : Le g h.get?) : ∀ {vs ts}, TTs g vs ts → ∃ as, ReadsAll h vs (datas ts) as
  | _, _, .nil => ⟨_, .nil⟩
  | _, _, .cons a b => by
    obtain ⟨as, r⟩ := TT.reads k a
    obtain ⟨bs, q⟩ := TTs.reads k b
    exact ⟨_, .cons r q⟩
end
section
variable {w : World} {A : Around} {E : Value → Shared → Prop} {s : Shared} {env : Env} {g0 fr g : G} {L C : Addr} {m mc : Str → Option Value} {mu mu' Y : List (Addr × Obj)} {v : Value} {pos : Pos} {h h' : Heap} {vs ws : List Value} {k k2 : Nat} {l b r : Addr} {oL : Obj}
theorem rNeTT {t : T} {x y : Value} {Q : Value → Shared → Prop} (hg : Le g s.heap.get?) (hx : TT g x t) (hy : TT g y t) (hu : A.units + 2 * t.size < cLine) (h : Q (.bool false) s) : wpAny (model Pw w) A (compareOp .NotEq x y) Q E s := by
  obtain ⟨as, r1⟩ := hx.reads hg
  obtain ⟨bs, r2⟩ := hy.reads hg
  have z := data_depth t
  refine PySem.SeqAt.compareNe_reads r1 r2 (data_lay t) (data_lay t) (by exact om_193 hu z) ?_
  rw [PySem.SeqAt.eqv_refl _ (data_lay t)]; exact h
theorem rNeTTs {ts : List T} {x y : Addr} {Q : Value → Shared → Prop} (hg : Le g s.heap.get?) (h1 : s.heap.get? x = some (lsOf vs k)) (hx : TTs g vs ts) (h2 : s.heap.get? y = some (lsOf ws k2)) (hy : TTs g ws ts) (hu : A.units + 2 * sizes ts + 1 < cLine) (h : Q (.bool false) s) : wpAny (model Pw w) A (compareOp .NotEq (.ref x) (.ref y)) Q E s := by
  obtain ⟨as, r1⟩ := hx.reads hg
  obtain ⟨bs, r2⟩ := hy.reads hg
  have z := datas_depth ts
  have zl : (PyData.list (datas ts)).canLay0 = true := by simp [PyData.canLay0, datas_lay]
  refine PySem.SeqAt.compareNe_reads (.list h1 rfl rfl (by simpa using r1)) (.list h2 rfl rfl (by simpa using r2)) zl zl (by simp [PyData.depth]; exact om_194 hu z) ?_
  rw [PySem.SeqAt.eqv_refl _ zl]; exact h
theorem rEqTTs {ts : List T} {x y : Addr} {Q : Value → Shared → Prop} (hg : Le g s.heap.get?) (h1 : s.heap.get? x = some (lsOf vs k)) (hx : TTs g vs ts) (h2 : s.heap.get? y = some (lsOf ws k2)) (hy : TTs g ws ts) (hu : A.units + 2 * sizes ts + 1 < cLine) (h : Q (.bool true) s) : wpAny (model Pw w) A (compareOp .Eq (.ref x) (.ref y)) Q E s := by
  obtain ⟨as, r1⟩ := hx.reads hg
  obtain ⟨bs, r2⟩ := hy.reads hg
  have z := datas_depth ts
  have zl : (PyData.list (datas ts)).canLay0 = true := by simp [PyData.canLay0, datas_lay]
  refine PySem.SeqAt.compareEq_reads (.list h1 rfl rfl (by simpa using r1)) (.list h2 rfl rfl (by simpa using r2)) zl zl (by simp [PyData.depth]; exact om_194 hu z) ?_
  rw [PySem.SeqAt.eqv_refl _ zl]; exact h

theorem hits_of {A : Around} {s : Shared} {ka kb : List (Int × Value)} {pa pb : List (Int × Int)} (x : KV ka pa) (y : KV kb pb) (h : ∀ p ∈ pa, getv pb p.1 = some p.2) : KeqHits A s kb ka true := by
  induction x with
  | nil => exact .nil
  | cons a n t x ih =>
    obtain ⟨u, hu⟩ := (y.getv a).2 n (h (a, n) (.head _))
    have e : (PyData.eqv (.int n) (.int n)) = true := by simp [PyData.eqv]
    have := KeqHits.hit hu (keq_flat (A := A) (s := s) (fun _ => .int n t) (fun _ => .int n u)) (ih fun p hp => h p (.tail _ hp))
    rw [e] at this; exact this
theorem rNeDict {x y : Addr} {o1 o2 : Obj} {pa pb : List (Int × Int)} {Q : Value → Shared → Prop} (n1 : (x == sysModules) = false) (n2 : (y == sysModules) = false) (h1 : s.heap.get? x = some o1) (d1 : DO (intKind Pw w) o1 pa) (h2 : s.heap.get? y = some o2) (d2 : DO (intKind Pw w) o2 pb)
    (hl : pa.length = pb.length) (hs : ∀ p ∈ pa, getv pb p.1 = some p.2) (hu : A.units < cLine) (h : Q (.bool false) s) : wpAny (model Pw w) A (compareOp .NotEq (.ref x) (.ref y)) Q E s := by
  obtain ⟨ka, i1, v1⟩ := d1
  obtain ⟨kb, i2, v2⟩ := d2
  refine keq_ne n1 n2 (Heap.dictOf_iff.mpr ⟨o1, h1, i1⟩) (Heap.dictOf_iff.mpr ⟨o2, h2, i2⟩) hu (fun _ => hits_of v1 v2 hs) ?_
  have e : ka.length = kb.length := by rw [v1.len, v2.len, hl]
  simpa [e] using h
theorem rEqDict {x y : Addr} {o1 o2 : Obj} {pa pb : List (Int × Int)} {Q : Value → Shared → Prop} (n1 : (x == sysModules) = false) (n2 : (y == sysModules) = false) (h1 : s.heap.get? x = some o1) (d1 : DO (intKind Pw w) o1 pa) (h2 : s.heap.get? y = some o2) (d2 : DO (intKind Pw w) o2 pb)
    (hl : pa.length = pb.length) (hs : ∀ p ∈ pa, getv pb p.1 = some p.2) (hu : A.units < cLine) (h : Q (.bool true) s) : wpAny (model Pw w) A (compareOp .Eq (.ref x) (.ref y)) Q E s := by
  obtain ⟨ka, i1, v1⟩ := d1
  obtain ⟨kb, i2, v2⟩ := d2
  refine keq_eq n1 n2 (Heap.dictOf_iff.mpr ⟨o1, h1, i1⟩) (Heap.dictOf_iff.mpr ⟨o2, h2, i2⟩) hu (fun _ => hits_of v1 v2 hs) ?_
  have e : ka.length = kb.length := by rw [v1.len, v2.len, hl]
  simpa [e] using h

theorem rSortedL {ns : List Int} {Q : Value → Shared → Prop} (S : St g0 fr g L m mu s.heap) (hl : s.heap.IsList l vs.toArray) (hi : IntsAre vs ns) (h64 : ns.length < 64)
    (h : ∀ a vs' ns' c h', IntsAre vs' ns' → ns'.Perm ns → ns'.Pairwise (· ≤ ·) → St g0 fr g L m ((a, lsOf vs' c) :: mu) h' → Q (.ref a) { s with heap := h' }) : wpAny (model Pw w) A (call (.builtin "sorted") [.ref l]) Q E s := by
  refine sorted_ints hl hi (by rw [hi.length]; exact h64) fun out ns' a1 a2 a3 => ?_
  obtain ⟨e, he⟩ := sortedAll_at s.heap vs out
  have hn : s.heap.get? (s.heap.objs.size + 1) = none := by
    cases q : s.heap.get? (s.heap.objs.size + 1) with
    | none => rfl
    | some o => exact absurd (Nat.lt_of_succ_lt (Heap.lt_size q)) (Nat.lt_irrefl _)
  exact h _ out.toList ns' e _ a1 a2 a3 (S.addM (fun _ _ => sortedAll_old) hn (by rw [he]))
theorem ints_keys {kvs : List (Int × Value)} (hl : vs.length = kvs.length) (hv : ∀ (j : Nat) (v : Value), vs[j]? = some v → ∃ k x, kvs[j]? = some (k, x) ∧ (intKind Pw w).is k v = true) : IntsAre vs (kvs.map (·.1)) := by
  induction vs generalizing kvs with
  | nil => cases kvs with
    | nil => exact .nil
    | cons p r => simp at hl
  | cons v r ih =>
    cases kvs with
    | nil => simp at hl
    | cons p q =>
      obtain ⟨k, x, h1, h2⟩ := hv 0 v rfl
      simp only [List.getElem?_cons_zero, Option.some.injEq] at h1
      subst h1
      obtain ⟨t, rfl⟩ := Value.isInt_shape h2
      exact .cons _ _ (ih (by simpa using hl) fun j v e => by simpa using hv (j + 1) v (by simpa using e))
theorem rSortedD {d : Addr} {o : Obj} {kvs : List (Int × Value)} {Q : Value → Shared → Prop} (hh : A.handled = none) (nm : (d == sysModules) = false) (S : St g0 fr g L m mu s.heap) (hm : s.heap.get? d = some o) (hd : o.IsDictOf (intKind Pw w) kvs) (h64 : kvs.length < 64)
    (h : ∀ a vs' ns' c h' tb, IntsAre vs' ns' → ns'.Perm (kvs.map (·.1)) → ns'.Pairwise (· ≤ ·) → St g0 fr g L m ((a, lsOf vs' c) :: mu) h' → Q (.ref a) { s with heap := h', toks := tb }) : wpAny (model Pw w) A (call (.builtin "sorted") [.ref d]) Q E s := by
  have hD : s.heap.DictOf (intKind Pw w) d kvs := Heap.dictOf_iff.mpr ⟨o, hm, hd⟩
  obtain ⟨ep, hat⟩ := hD.dictAt
  refine kdu_sorted (kdl_dict (knd := intKind Pw w) (kvs := kvs) (ep := ep) nm) hh S.fr0 S.newsA hat (by rw [sizeLine_eq]; exact om_195 h64) fun D h1 tk us F' N' l1 hl hv => ?_
  have hI : IntsAre us (kvs.map (·.1)) := ints_keys hl hv
  have hDn : s.heap.get? D = none := by
    cases q : s.heap.get? D with
    | none => rfl
    | some o =>
      have hDL : D ≠ L := (N' (D, _) (.head _)).2.1
      exact absurd (l1 (D, o) (mem_Ev.mpr ⟨q, by simpa using hDL⟩)) (Nat.lt_irrefl _)
  have S1 := S.backM F' N' hDn
  have ho : h1.get? D = some (seqObj "list" us.toArray 0) := S1.mt _ (.head _)
  refine wpAny_call_entry PyProof.Rows.slot_list_sort ⟨_, ho, rfl⟩ PyProof.Rows.entry_list_sort (list_sort_tree (n := 0) (vs := us) ho hI (by rw [hI.length]; simpa using h64) fun out ns' a1 a2 a3 => ⟨.none, rfl, ?_⟩) (PyProof.Rows.args_list_sort _)
  obtain ⟨e, he⟩ := sortedHeap_at (out := out) ho
  have gD := S1.gm _ (.head _)
  have C : MG g h1 ([(D, listOf us.toArray 0)].map Prod.fst) g (sortedHeap h1 D us out) := by
    have keep : ∀ b x, b ≠ D → h1.get? b = some x → (sortedHeap h1 D us out).get? b = some x := fun b x hb q => by rw [sortedHeap_old hb (Heap.lt_size q)]; exact q
    refine ⟨⟨fun b x q => ?_, Le.refl _, fun b x q => keep b x (fun e => by subst e; dsimp only at gD; rw [gD] at q; cases q) (S1.le _ _ q), fun _ _ q => .inl q⟩, fun a ha => by rw [List.mem_singleton.mp ha]; exact gD⟩
    unfold off at q
    split at q
    · cases q
    · rename_i hb
      exact keep b x (by simpa using hb) q
  have S2 := St.callM (X := [(D, listOf us.toArray 0)]) (Y := mu) (X' := [(D, lsOf out.toList e)]) S1 C rfl (fun p hp => by rw [List.mem_singleton.mp hp]; rw [he])
  exact h D out.toList ns' e _ _ a1 a2 a3 S2
theorem rNeInts {x y : Addr} {ns ms : List Int} {Q : Value → Shared → Prop} (h1 : s.heap.get? x = some (lsOf vs k)) (hi : IntsAre vs ns) (h2 : s.heap.get? y = some (lsOf ws k2)) (hj : IntsAre ws ms) (hu : A.units + 64 < cLine) (h : Q (.bool (!decide (ns = ms))) s) : wpAny (model Pw w) A (compareOp .NotEq (.ref x) (.ref y)) Q E s :=
  ke_ne_ints (xs := vs) (ys := ws) ⟨_, h1, rfl, _, rfl⟩ ⟨_, h2, rfl, _, rfl⟩ hi hj hu h
end


-- part P1
noncomputable def pos (t : T) : List Int := (t.pre.map T.n).filter fun n => decide (0 < n)
noncomputable def poss (ts : List T) : List Int := ((pres ts).map T.n).filter fun n => decide (0 < n)
theorem poss_cons (t : T) (ts : List T) : poss (t :: ts) = pos t ++ poss ts := by simp [poss, pos, pres]
theorem poss_app (a b : List T) : poss (a ++ b) = poss a ++ poss b := by simp [poss, pres_app]
theorem poss_nil : poss [] = [] := rfl
theorem pos_mk (n : Int) (ks : List T) : pos (.mk n ks) = (if 0 < n then [n] else []) ++ poss ks := by
  unfold pos poss
  rw [T.pre, List.map_cons, List.filter_cons]
  by_cases h : 0 < n <;> simp [nmk, h]
mutual
theorem par_keys (p : Int) : ∀ t : T, (t.par p).map (·.1) = pos t
  | .mk n ks => by
    rw [pos_mk, T.par, List.map_append, pars_keys n ks]
    by_cases h : 0 < n <;> simp [h]
theorem pars_keys (p : Int) : ∀ ts : List T, (pars p ts).map (·.1) = poss ts
  | [] => rfl
  | t :: ts => by rw [pars, List.map_append, par_keys p t, pars_keys p ts, poss_cons]
end
theorem kidsOf_cons (p : Int) (n : Int) (ks ts : List T) : kidsOf p (.mk n ks :: ts) = (if 0 < n then [(n, p)] else []) ++ kidsOf p ts := by
  unfold kidsOf
  rw [List.map_cons, List.filter_cons]
  by_cases h : 0 < n <;> simp [nmk, h]
mutual
theorem par_perm : ∀ (t : T), List.Perm (t.pre.flatMap kidsAt) (pars t.n t.ks)
  | .mk n ks => by
    rw [T.pre, List.flatMap_cons]
    show List.Perm (kidsOf n ks ++ _) (pars n ks)
    exact pars_perm n ks
theorem pars_perm : ∀ (p : Int) (ts : List T), List.Perm (kidsOf p ts ++ (pres ts).flatMap kidsAt) (pars p ts)
  | p, [] => by simp [kidsOf, pres, pars]
  | p, .mk n ks :: ts => by
    have h1 := par_perm (.mk n ks)
    have h2 := pars_perm p ts
    rw [kidsOf_cons, pres, List.flatMap_append, pars, T.par]
    simp only [nmk, T.ks] at h1
    have h3 : List.Perm ((if 0 < n then [(n, p)] else []) ++ kidsOf p ts ++ ((T.mk n ks).pre.flatMap kidsAt ++ (pres ts).flatMap kidsAt)) ((if 0 < n then [(n, p)] else []) ++ ((T.mk n ks).pre.flatMap kidsAt ++ (kidsOf p ts ++ (pres ts).flatMap kidsAt))) := by
      rw [List.append_assoc]
      refine List.Perm.append_left _ ?_
      rw [← List.append_assoc, ← List.append_assoc]
      exact List.perm_append_comm.append_right _
    refine h3.trans ?_
    rw [List.append_assoc]
    exact List.Perm.append_left _ (h1.append h2)
end
theorem put_fresh {ps : List (Int × Int)} {k y : Int} (h : k ∉ ps.map (·.1)) : put ps k y = ps ++ [(k, y)] := by
  unfold put
  rw [if_neg]
  intro q
  obtain ⟨p, hp, e⟩ := List.any_eq_true.mp q
  exact h (List.mem_map.mpr ⟨p, hp, of_decide_eq_true e⟩)
theorem puts_fresh (acc l : List (Int × Int)) (h : ((acc ++ l).map (·.1)).Nodup) : puts acc l = acc ++ l := by
  induction l generalizing acc with
  | nil => simp [puts]
  | cons p r ih =>
    have h1 : p.1 ∉ acc.map (·.1) := by
      intro hm
      rw [List.map_append, List.map_cons] at h
      exact (List.nodup_append.mp h).2.2 p.1 hm p.1 (.head _) rfl
    show puts (put acc p.1 p.2) r = _
    rw [put_fresh h1, ih _ (by simpa using h)]
    simp
theorem getv_mem {l : List (Int × Int)} (h : (l.map (·.1)).Nodup) {p : Int × Int} (hp : p ∈ l) : getv l p.1 = some p.2 := by
  induction l with
  | nil => cases hp
  | cons q r ih =>
    rw [List.map_cons, List.nodup_cons] at h
    obtain ⟨a, y⟩ := q
    rcases List.mem_cons.mp hp with rfl | hp
    · simp [getv]
    · have : a ≠ p.1 := fun e => h.1 (List.mem_map.mpr ⟨p, hp, e.symm⟩)
      simp only [getv, this, if_false]
      exact ih h.2 hp
/-- the two dicts of parents are alike -/
theorem parents_same (ts : List T) (h : (poss ts).Nodup) : (parN ts).length = (puts [] (pars 0 ts)).length ∧ ∀ p ∈ parN ts, getv (puts [] (pars 0 ts)) p.1 = some p.2 := by
  have hp : List.Perm (roots ts ++ (pres ts).flatMap kidsAt) (pars 0 ts) := pars_perm 0 ts
  have hk : ((pars 0 ts).map (·.1)).Nodup := by rw [pars_keys]; exact h
  have hk2 : ((roots ts ++ (pres ts).flatMap kidsAt).map (·.1)).Nodup := (hp.map (·.1)).nodup_iff.mpr hk
  have e1 : parN ts = roots ts ++ (pres ts).flatMap kidsAt := (puts_fresh [] _ (by simpa using hk2)).trans (List.nil_append _)
  have e2 : puts [] (pars 0 ts) = pars 0 ts := (puts_fresh [] _ (by simpa using hk)).trans (List.nil_append _)
  rw [e1, e2]
  exact ⟨hp.length_eq, fun p hm => getv_mem hk (hp.mem_iff.mp hm)⟩

theorem joinT_pos (tab : Tab) (a b : T) : pos (joinT tab a b) = pos a ++ pos b := by
  cases a with
  | mk n ks =>
  cases b with
  | mk n2 ks2 =>
  unfold joinT
  split
  · rename_i e
    simp only [nmk] at e
    subst e
    split
    · rename_i e2; simp only [nmk] at e2; subst e2; rw [pos_mk, pos_mk, pos_mk]; simp only [T.ks, poss_app]; simp
    · rw [pos_mk, pos_mk]; simp only [T.ks, poss_app]; rw [poss_cons, poss_nil]; simp
  · split
    · show pos (T.mk n (ks ++ [T.mk n2 ks2])) = _
      rw [pos_mk, pos_mk, poss_app, poss_cons, poss_nil]; simp
    · rw [pos_mk, poss_cons, poss_cons, poss_nil]; simp
theorem set_perm {α β : Type} (f : α → List β) {l : List α} {i : Nat} {a b : α} (e : l[i]? = some a) : List.Perm ((l.set i b).flatMap f ++ f a) (l.flatMap f ++ f b) := by
  induction l generalizing i with
  | nil => simp at e
  | cons x r ih =>
    cases i with
    | zero =>
      simp only [List.getElem?_cons_zero, Option.some.injEq] at e
      subst e
      rw [List.set_cons_zero, List.flatMap_cons, List.flatMap_cons]
      have : List.Perm (f b ++ (r.flatMap f ++ f x)) (f b ++ (f x ++ r.flatMap f)) := List.perm_append_comm.append_left _
      rw [List.append_assoc]
      refine this.trans ?_
      rw [List.append_assoc]
      refine List.perm_append_comm.trans ?_
      rw [List.append_assoc]
    | succ i =>
      simp only [List.getElem?_cons_succ] at e
      rw [List.set_cons_succ, List.flatMap_cons, List.flatMap_cons, List.append_assoc, List.append_assoc]
      exact (ih e).append_left _
noncomputable def osz : Option T → Nat
  | none => 0
  | some t => t.size
noncomputable def osum (l : List (Option T)) : Nat := (l.map osz).sum
theorem set_sum {l : List (Option T)} {i : Nat} {a b : Option T} (e : l[i]? = some a) : osum (l.set i b) + osz a = osum l + osz b := by
  induction l generalizing i with
  | nil => simp at e
  | cons x r ih =>
    cases i with
    | zero => simp only [List.getElem?_cons_zero, Option.some.injEq] at e; subst e; simp [osum]; exact om_196
    | succ i => simp only [List.getElem?_cons_succ] at e; have := ih e; simp [osum] at this ⊢; exact om_197 this
noncomputable def opos : Option T → List Int
  | none => []
  | some t => pos t
theorem opos_flat (l : List (Option T)) : l.flatMap opos = poss (l.filterMap id) := by
  induction l with
  | nil => rfl
  | cons x r ih => cases x with
    | none => simp [opos, ih]
    | some t => simp only [List.flatMap_cons, opos, ih, List.filterMap_cons, id, poss_cons]
theorem osum_sizes (l : List (Option T)) : osum l = sizes (l.filterMap id) := by
  induction l with
  | nil => rfl
  | cons x r ih => cases x with
    | none => simpa [osum, osz] using ih
    | some t => simp only [osum, osz, List.map_cons, List.sum_cons, List.filterMap_cons, id, sizes] at ih ⊢; exact om_198 ih

/-! the program's gathering and the law's -/
noncomputable def alikeU (tab : Tab) (ts : List T) (b : Str) (i : Nat) : List Nat := (List.range i).filter (alikeP tab ts b)
noncomputable def absU (tab : Tab) (ts : List T) (b : Str) (i : Nat) : List Nat := (alikeU tab ts b i).filter fun j => decide ((atN ts j).n = 0)
noncomputable def plU (tab : Tab) (ts : List T) (b : Str) (i : Nat) : List Nat := (alikeU tab ts b i).filter fun j => decide (0 < (atN ts j).n) && !re tab (atN ts j).n
theorem atT_nat (ts : List T) (j : Nat) : atT ts (j : Nat) = atN ts j := by simp [atT, atN]
theorem alikeU_succ (tab : Tab) (ts : List T) (b : Str) (i : Nat) : alikeU tab ts b (i + 1) = alikeU tab ts b i ++ (if alikeP tab ts b i then [i] else []) := range_fs _ _
theorem filter_app1 (p q : Nat → Bool) (l : List Nat) (i : Nat) : (l ++ (if q i then [i] else [])).filter p = l.filter p ++ (if q i && p i then [i] else []) := by
  rw [List.filter_append]; congr 1
  cases q i <;> cases h : p i <;> simp [h]
theorem plc_rep (tab : Tab) (ts : List T) (hok : ∀ t ∈ ts, OkT tab t) (b : Str) (hb : b ≠ Str.ofString "") : ∀ i, i ≤ ts.length → getv (plc tab ts i) b = ((absU tab ts b i ++ plU tab ts b i ++ alikeU tab ts b i).head?).map fun n => ((n : Nat) : Int)
  | 0, _ => by simp [plc, getv, absU, plU, alikeU]
  | i + 1, hi => by
    have ih := plc_rep tab ts hok b hb i (by exact om_199 hi)
    obtain ⟨t, ht⟩ : ∃ t, ts[i]? = some t := ⟨_, List.getElem?_eq_getElem (by exact om_200 hi)⟩
    have hO := hok t (List.mem_of_getElem? ht)
    have ei : atN ts i = t := atN_of ht
    have hst : plc tab ts (i + 1) = if wantP tab ts (plc tab ts i) t then put (plc tab ts i) (t.base tab) i else plc tab ts i := by simp only [plc, ht]
    rw [hst]
    have ea : absU tab ts b (i + 1) = absU tab ts b i ++ (if alikeP tab ts b i && decide (t.n = 0) then [i] else []) := by
      unfold absU; rw [alikeU_succ, filter_app1, ei]
    have ep : plU tab ts b (i + 1) = plU tab ts b i ++ (if alikeP tab ts b i && (decide (0 < t.n) && !re tab t.n) then [i] else []) := by
      unfold plU; rw [alikeU_succ, filter_app1, ei]
    rw [ea, ep, alikeU_succ]
    by_cases hbb : t.base tab = b
    · have eP : alikeP tab ts b i = true := by simp [alikeP, hb, ei, hbb]
      rw [eP]
      simp only [Bool.true_and, if_true]
      have ew : wantP tab ts (plc tab ts i) t = (match getv (plc tab ts i) b with | none => true | some p => better t.n (atT ts p).n (re tab t.n) (re tab (atT ts p).n)) := by
        unfold wantP
        rw [hbb, decide_eq_true hb, Bool.true_and]
        all_goals (cases getv (plc tab ts i) b <;> rfl)
      rw [ih] at ew
      have yes : getv (put (plc tab ts i) (t.base tab) i) b = some ((i : Nat) : Int) := by rw [getv_put, if_pos hbb]
      cases hA : absU tab ts b i with
      | cons a r =>
        have h1 : a ∈ absU tab ts b i := by rw [hA]; exact .head _
        have h2 : (atN ts a).n = 0 := by simpa using (List.mem_filter.mp h1).2
        have hw : wantP tab ts (plc tab ts i) t = false := by rw [ew, hA]; simp [better, atT_nat, h2]
        rw [hw]
        simp only [Bool.false_eq_true, if_false]
        rw [ih, hA]; simp
      | nil =>
        cases hP : plU tab ts b i with
        | cons a r =>
          have h1 : a ∈ plU tab ts b i := by rw [hP]; exact .head _
          have h2 : 0 < (atN ts a).n ∧ re tab (atN ts a).n = false := by simpa using (List.mem_filter.mp h1).2
          have h3 : ¬ (atN ts a).n = 0 := by omega
          have hw : wantP tab ts (plc tab ts i) t = decide (t.n = 0) := by rw [ew, hA, hP]; simp [better, atT_nat, h3, h2.2]
          rw [hw]
          by_cases h0 : t.n = 0
          · simp only [h0, decide_true, if_true]; rw [yes]; simp
          · simp only [h0, decide_false, Bool.false_eq_true, if_false]; rw [ih, hA, hP]; simp
        | nil =>
          cases hK : alikeU tab ts b i with
          | nil =>
            have hw : wantP tab ts (plc tab ts i) t = true := by rw [ew, hA, hP, hK]; rfl
            rw [hw]
            simp only [if_true]; rw [yes]
            by_cases h0 : t.n = 0 <;> by_cases h4 : (decide (0 < t.n) && !re tab t.n) = true <;> simp [h0, h4]
          | cons a r =>
            have h1 : a ∈ alikeU tab ts b i := by rw [hK]; exact .head _
            have hal : a < ts.length := by have := List.mem_range.mp (List.mem_filter.mp h1).1; exact om_201 hi this
            obtain ⟨u, hu⟩ : ∃ u, ts[a]? = some u := ⟨_, List.getElem?_eq_getElem hal⟩
            have eu : atN ts a = u := atN_of hu
            have hOu := hok u (List.mem_of_getElem? hu)
            have h3 : ¬ u.n = 0 := by
              intro e
              have : a ∈ absU tab ts b i := List.mem_filter.mpr ⟨h1, by rw [eu]; simpa using e⟩
              rw [hA] at this; cases this
            have h4 : 0 < u.n := by rcases hOu.1 with q | q <;> omega
            have h5 : re tab u.n = true := by
              cases q : re tab u.n with
              | true => rfl
              | false =>
                have : a ∈ plU tab ts b i := List.mem_filter.mpr ⟨h1, by rw [eu]; simp [h4, q]⟩
                rw [hP] at this; cases this
            have hw : wantP tab ts (plc tab ts i) t = (decide (t.n = 0) || !re tab t.n) := by rw [ew, hA, hP, hK]; simp [better, atT_nat, eu, h3, h5]
            rw [hw]
            by_cases h0 : t.n = 0
            · simp only [h0, decide_true, Bool.true_or, if_true]; rw [yes]; simp
            · have h6 : 0 < t.n := by rcases hO.1 with q | q <;> omega
              cases q : re tab t.n with
              | true =>
                simp only [h0, decide_false, Bool.not_true, Bool.or_self, Bool.false_eq_true, if_false]
                rw [ih, hA, hP, hK]; simp
              | false =>
                simp only [h0, decide_false, Bool.not_false, Bool.false_or, if_true]
                rw [yes]; simp [h6]
    · have eP : alikeP tab ts b i = false := by simp [alikeP, ei, hbb]
      rw [eP]
      simp only [Bool.false_and, Bool.false_eq_true, if_false, List.append_nil]
      split
      · rw [getv_put, if_neg hbb]; exact ih
      · exact ih


-- part P2
noncomputable def form (tab : Tab) (ts : List T) (pl : List (Str × Int)) (i j : Nat) : Option T :=
  if (atN ts j).base tab = Str.ofString "" then some (atN ts j)
  else if getv pl ((atN ts j).base tab) = some ((j : Nat) : Int) then some (foldT tab ts j (alikeU tab ts ((atN ts j).base tab) i))
  else if j < i then none else some (atN ts j)
theorem foldT_snoc (tab : Tab) (ts : List T) (j i : Nat) (l : List Nat) : foldT tab ts j (l ++ [i]) = if i = j then foldT tab ts j l else joinT tab (foldT tab ts j l) (atN ts i) := by
  simp [foldT, List.foldl_append]
theorem form_step (tab : Tab) (ts : List T) (pl : List (Str × Int)) (i : Nat) (t : T) (ht : ts[i]? = some t) (j : Nat) (hw : wantG tab pl i t = false) : form tab ts pl (i + 1) j = form tab ts pl i j := by
  have ei : atN ts i = t := atN_of ht
  unfold form
  by_cases h1 : (atN ts j).base tab = Str.ofString ""
  · rw [if_pos h1, if_pos h1]
  · rw [if_neg h1, if_neg h1]
    by_cases h2 : getv pl ((atN ts j).base tab) = some ((j : Nat) : Int)
    · rw [if_pos h2, if_pos h2, alikeU_succ]
      by_cases h3 : alikeP tab ts ((atN ts j).base tab) i = true
      · rw [if_pos h3, foldT_snoc]
        have h4 : t.base tab = (atN ts j).base tab := by simp [alikeP, ei] at h3; exact h3.2
        have h5 : i = j := by
          simp only [wantG, h4, h2, Bool.and_eq_false_iff, decide_eq_false_iff_not, Classical.not_not] at hw
          rcases hw with q | q
          · exact absurd q h1
          · simp at q; exact om_202 q
        rw [if_pos h5]
      · rw [if_neg h3, List.append_nil]
    · rw [if_neg h2, if_neg h2]
      by_cases h3 : j < i
      · rw [if_pos h3, if_pos (by exact om_70 h3)]
      · rw [if_neg h3]
        by_cases h4 : j < i + 1
        · exfalso
          have : j = i := by exact om_203 h3 h4
          subst this
          rw [ei] at h1 h2
          simp [wantG, h1, h2] at hw
        · rw [if_neg h4]
theorem gs_form (tab : Tab) (ts : List T) (pl : List (Str × Int)) (hpl : ∀ (i : Nat) (t : T), ts[i]? = some t → t.base tab ≠ Str.ofString "" → ∃ p u, getv pl (t.base tab) = some ((p : Nat) : Int) ∧ ts[p]? = some u ∧ u.base tab = t.base tab) :
    ∀ i, i ≤ ts.length → ∀ j, j < ts.length → (gslots tab ts pl i)[j]? = some (form tab ts pl i j)
  | 0, _, j, hj => by
    obtain ⟨t, ht⟩ : ∃ t, ts[j]? = some t := ⟨_, List.getElem?_eq_getElem hj⟩
    have e : form tab ts pl 0 j = some (atN ts j) := by
      unfold form
      by_cases h1 : (atN ts j).base tab = Str.ofString ""
      · rw [if_pos h1]
      · rw [if_neg h1]
        by_cases h2 : getv pl ((atN ts j).base tab) = some ((j : Nat) : Int)
        · rw [if_pos h2]; simp [alikeU, foldT]
        · rw [if_neg h2, if_neg (Nat.not_lt_zero _)]
    rw [e, atN_of ht]
    simp [gslots, ht]
  | i + 1, hi, j, hj => by
    have ih := gs_form tab ts pl hpl i (by exact om_199 hi)
    obtain ⟨t, ht⟩ : ∃ t, ts[i]? = some t := ⟨_, List.getElem?_eq_getElem (by exact om_200 hi)⟩
    have ei : atN ts i = t := atN_of ht
    have hst : gslots tab ts pl (i + 1) = if wantG tab pl i t then ((gslots tab ts pl i).set ((getv pl (t.base tab)).getD 0).toNat (some (joinT tab ((((gslots tab ts pl i)[((getv pl (t.base tab)).getD 0).toNat]?).getD none).getD (.mk 0 [])) t))).set i none else gslots tab ts pl i := by simp only [gslots, ht]
    rw [hst]
    cases hw : wantG tab pl i t with
    | false =>
      simp only [Bool.false_eq_true, if_false]
      rw [ih j hj, form_step tab ts pl i t ht j hw]
    | true =>
      simp only [if_true]
      have hb : t.base tab ≠ Str.ofString "" := by intro e; simp [wantG, e] at hw
      obtain ⟨p, u, hp, hu, hub⟩ := hpl i t ht hb
      have hpi : p ≠ i := by intro e; subst e; simp [wantG, hp] at hw
      have hpl' : p < ts.length := (List.getElem?_eq_some_iff.mp hu).1
      have ep : atN ts p = u := atN_of hu
      have zl := gslots_len tab ts pl i
      have hsp : (gslots tab ts pl i)[p]? = some (some (foldT tab ts p (alikeU tab ts (t.base tab) i))) := by
        rw [ih p hpl']
        unfold form
        rw [ep, hub, if_neg hb, if_pos hp]
      rw [hp]
      simp only [Option.getD_some, Int.toNat_natCast, hsp]
      rw [List.getElem?_set, List.getElem?_set]
      by_cases hij : i = j
      · subst hij
        rw [if_pos rfl, if_pos (by simp [zl]; exact om_182 hj)]
        unfold form
        rw [ei, if_neg hb, hp, if_neg (by simp; exact om_204 hpi), if_pos (by exact om_71)]
      · rw [if_neg hij]
        by_cases hpj : p = j
        · subst hpj
          rw [if_pos rfl, if_pos (by exact om_103 zl hj)]
          unfold form
          rw [ep, hub, if_neg hb, if_pos hp, alikeU_succ]
          have eP : alikeP tab ts (t.base tab) i = true := by simp [alikeP, hb, ei]
          rw [if_pos eP, foldT_snoc, if_neg hij, ei]
        · rw [if_neg hpj, ih j hj]
          congr 1
          unfold form
          by_cases h1 : (atN ts j).base tab = Str.ofString ""
          · rw [if_pos h1, if_pos h1]
          · rw [if_neg h1, if_neg h1]
            by_cases h2 : getv pl ((atN ts j).base tab) = some ((j : Nat) : Int)
            · rw [if_pos h2, if_pos h2, alikeU_succ]
              by_cases h3 : alikeP tab ts ((atN ts j).base tab) i = true
              · exfalso
                have h4 : t.base tab = (atN ts j).base tab := by simp [alikeP, ei] at h3; exact h3.2
                rw [← h4, hp] at h2
                simp at h2
                exact hpj (by exact om_205 h2)
              · rw [if_neg h3, List.append_nil]
            · rw [if_neg h2, if_neg h2]
              by_cases h3 : j < i
              · rw [if_pos h3, if_pos (by exact om_70 h3)]
              · rw [if_neg h3, if_neg (by exact om_206 hij h3)]
theorem lawG_map (tab : Tab) (ts : List T) (n : Nat) : lawG tab ts n = ((List.range n).map fun j => if repN tab ts ((atN ts j).base tab) j = j then some (foldT tab ts j (alikeN tab ts ((atN ts j).base tab))) else none).filterMap id := by
  induction n with
  | zero => rfl
  | succ n ih =>
    rw [lawG, ih, List.range_succ, List.map_append, List.filterMap_append]
    congr 1
    simp only [List.map_cons, List.map_nil, List.filterMap_cons, List.filterMap_nil, id]
    split <;> rename_i h <;> simp [h]
theorem gather_same (tab : Tab) (ts : List T) (hok : ∀ t ∈ ts, OkT tab t) : gatherT tab ts = lawGatherT tab ts := by
  have hrep := fun b hb => plc_rep tab ts hok b hb ts.length (Nat.le_refl _)
  have hpl : ∀ (i : Nat) (t : T), ts[i]? = some t → t.base tab ≠ Str.ofString "" → ∃ p u, getv (plc tab ts ts.length) (t.base tab) = some ((p : Nat) : Int) ∧ ts[p]? = some u ∧ u.base tab = t.base tab := fun i t ht hb => by
    obtain ⟨p, h1, _⟩ := plc_has tab ts ts.length i t (List.getElem?_eq_some_iff.mp ht).1 ht hb
    obtain ⟨j, u, _, rfl, h3, h4⟩ := plc_at tab ts _ _ _ h1
    exact ⟨j, u, h1, h3, h4⟩
  unfold gatherT lawGatherT
  rw [lawG_map]
  congr 1
  refine List.ext_getElem? fun j => ?_
  rcases Nat.lt_or_ge j ts.length with hj | hj
  · rw [gs_form tab ts _ hpl ts.length (Nat.le_refl _) j hj, List.getElem?_map, List.getElem?_range hj]
    simp only [Option.map_some, Option.some.injEq]
    obtain ⟨t, ht⟩ : ∃ t, ts[j]? = some t := ⟨_, List.getElem?_eq_getElem hj⟩
    have ej : atN ts j = t := atN_of ht
    unfold form
    rw [ej]
    by_cases h1 : t.base tab = Str.ofString ""
    · rw [if_pos h1, h1]
      have e : alikeN tab ts (Str.ofString "") = [] := by
        unfold alikeN
        rw [List.filter_eq_nil_iff]
        intro a _
        simp [alikeP]
      have e2 : repN tab ts (Str.ofString "") j = j := by simp [repN, absentN, plainN, e]
      rw [if_pos e2, e]
      simp [foldT, ej]
    · rw [if_neg h1]
      have h2 := hrep _ h1
      have h3 : absU tab ts (t.base tab) ts.length ++ plU tab ts (t.base tab) ts.length ++ alikeU tab ts (t.base tab) ts.length = absentN tab ts (t.base tab) ++ plainN tab ts (t.base tab) ++ alikeN tab ts (t.base tab) := rfl
      rw [h3] at h2
      have hm : j ∈ alikeN tab ts (t.base tab) := List.mem_filter.mpr ⟨List.mem_range.mpr hj, by simp [alikeP, h1, ej]⟩
      cases hL : absentN tab ts (t.base tab) ++ plainN tab ts (t.base tab) ++ alikeN tab ts (t.base tab) with
      | nil =>
        simp only [List.append_eq_nil_iff] at hL
        rw [hL.2] at hm; cases hm
      | cons a r =>
        rw [hL] at h2
        simp only [List.head?_cons, Option.map_some] at h2
        have e2 : repN tab ts (t.base tab) j = a := by unfold repN; rw [hL]; rfl
        rw [h2, e2]
        by_cases h4 : a = j
        · rw [if_pos (by rw [h4]), if_pos h4]; rfl
        · rw [if_neg (by simp; exact om_187 h4), if_neg h4, if_pos hj]
  · rw [List.getElem?_eq_none (by rw [gslots_len]; exact hj), List.getElem?_eq_none (by simp; exact hj)]


-- part P3
theorem gs_inv (tab : Tab) (ts : List T) (pl : List (Str × Int)) (hpl : ∀ (i : Nat) (t : T), ts[i]? = some t → t.base tab ≠ Str.ofString "" → ∃ p u, getv pl (t.base tab) = some ((p : Nat) : Int) ∧ ts[p]? = some u ∧ u.base tab = t.base tab) :
    ∀ i, i ≤ ts.length → List.Perm ((gslots tab ts pl i).flatMap opos) (poss ts) ∧ osum (gslots tab ts pl i) ≤ sizes ts + i
  | 0, _ => by
    rw [opos_flat, osum_sizes]
    have e : (gslots tab ts pl 0).filterMap id = ts := by
      show (ts.map some).filterMap id = ts
      rw [List.filterMap_map]
      exact List.filterMap_some
    rw [e]
    exact ⟨List.Perm.refl _, Nat.le_refl _⟩
  | i + 1, hi => by
    obtain ⟨ih1, ih2⟩ := gs_inv tab ts pl hpl i (by exact om_199 hi)
    obtain ⟨t, ht⟩ : ∃ t, ts[i]? = some t := ⟨_, List.getElem?_eq_getElem (by exact om_200 hi)⟩
    have ei : atN ts i = t := atN_of ht
    have hst : gslots tab ts pl (i + 1) = if wantG tab pl i t then ((gslots tab ts pl i).set ((getv pl (t.base tab)).getD 0).toNat (some (joinT tab ((((gslots tab ts pl i)[((getv pl (t.base tab)).getD 0).toNat]?).getD none).getD (.mk 0 [])) t))).set i none else gslots tab ts pl i := by simp only [gslots, ht]
    rw [hst]
    cases hw : wantG tab pl i t with
    | false => simp only [Bool.false_eq_true, if_false]; exact ⟨ih1, by exact om_207 ih2⟩
    | true =>
      simp only [if_true]
      have hb : t.base tab ≠ Str.ofString "" := by intro e; simp [wantG, e] at hw
      obtain ⟨p, u, hp, hu, hub⟩ := hpl i t ht hb
      have hpi : p ≠ i := by intro e; subst e; simp [wantG, hp] at hw
      have hpl' : p < ts.length := (List.getElem?_eq_some_iff.mp hu).1
      have ep : atN ts p = u := atN_of hu
      have hsp : (gslots tab ts pl i)[p]? = some (some (foldT tab ts p (alikeU tab ts (t.base tab) i))) := by
        rw [gs_form tab ts pl hpl i (by exact om_199 hi) p hpl']
        unfold form
        rw [ep, hub, if_neg hb, if_pos hp]
      have hsi : (gslots tab ts pl i)[i]? = some (some t) := by
        rw [gs_form tab ts pl hpl i (by exact om_199 hi) i (by exact om_200 hi)]
        unfold form
        rw [ei, if_neg hb, hp, if_neg (by simp; exact om_204 hpi), if_neg (Nat.lt_irrefl _)]
      rw [hp]
      simp only [Option.getD_some, Int.toNat_natCast, hsp]
      generalize foldT tab ts p (alikeU tab ts (t.base tab) i) = v at *
      generalize gslots tab ts pl i = sl at *
      have hs1 : (sl.set p (some (joinT tab v t)))[i]? = some (some t) := by rw [List.getElem?_set, if_neg hpi]; exact hsi
      have q1 := set_perm opos (b := some (joinT tab v t)) hsp
      have q2 := set_perm opos (b := none) hs1
      have s1 := set_sum (b := some (joinT tab v t)) hsp
      have s2 := set_sum (b := none) hs1
      have zj := joinT_size tab v t
      simp only [opos, osz, joinT_pos, List.append_nil] at q1 q2 s1 s2
      refine ⟨?_, by exact om_208 ih2 s1 s2 zj⟩
      have q3 : List.Perm (((sl.set p (some (joinT tab v t))).set i none).flatMap opos ++ (pos t ++ pos v)) (sl.flatMap opos ++ (pos t ++ pos v)) := by
        rw [← List.append_assoc]
        refine (q2.append_right _).trans (q1.trans ?_)
        exact List.perm_append_comm.append_left _
      exact ((List.perm_append_right_iff _).mp q3).trans ih1
theorem gather_inv (tab : Tab) (ts : List T) (hok : ∀ t ∈ ts, OkT tab t) : List.Perm (poss (gatherT tab ts)) (poss ts) ∧ sizes (gatherT tab ts) ≤ sizes ts + ts.length := by
  have hpl : ∀ (i : Nat) (t : T), ts[i]? = some t → t.base tab ≠ Str.ofString "" → ∃ p u, getv (plc tab ts ts.length) (t.base tab) = some ((p : Nat) : Int) ∧ ts[p]? = some u ∧ u.base tab = t.base tab := fun i t ht hb => by
    obtain ⟨p, h1, _⟩ := plc_has tab ts ts.length i t (List.getElem?_eq_some_iff.mp ht).1 ht hb
    obtain ⟨j, u, _, rfl, h3, h4⟩ := plc_at tab ts _ _ _ h1
    exact ⟨j, u, h1, h3, h4⟩
  obtain ⟨h1, h2⟩ := gs_inv tab ts _ hpl ts.length (Nat.le_refl _)
  rw [opos_flat] at h1
  rw [osum_sizes] at h2
  exact ⟨h1, h2⟩

theorem lookup_app (tab more : Tab) (m : Int) : (tab ++ more).lookup m = (tab.lookup m).or (more.lookup m) := by
  induction tab with
  | nil => simp
  | cons q r ih =>
    obtain ⟨a, b⟩ := q
    rw [List.cons_append, List.lookup_cons, List.lookup_cons, ih]
    cases m == a <;> simp
structure FI (i : Nat) (tab : Tab) (ts : List T) : Prop where
  ok : ∀ t ∈ ts, OkT tab t
  size : sizes ts ≤ 6 * i
  len : ts.length = i
  perm : List.Perm (poss ts) (tab.map (·.1))
  few : tab.length ≤ 4 * i
theorem FI.nil : FI 0 [] [] := ⟨(fun _ ht => nomatch ht), by simp [sizes], rfl, List.Perm.refl _, by simp⟩
theorem FI.add {i : Nat} {tab more : Tab} {ts : List T} {t : T} (F : FI i tab ts) (x : TreeOf more t) : FI (i + 1) (tab ++ more) (ts ++ [t]) where
  ok := fun u hu => by
    rcases List.mem_append.mp hu with hu | hu
    · obtain ⟨h1, b, r, h2⟩ := F.ok u hu
      exact ⟨h1, b, r, by rw [lookup_app, h2]; rfl⟩
    · rw [List.mem_singleton.mp hu]
      obtain ⟨b, r, h2⟩ := x.look
      refine ⟨x.root, ?_⟩
      rw [lookup_app, h2]
      cases e : tab.lookup t.key with
      | none => exact ⟨b, r, rfl⟩
      | some p => exact ⟨p.1, p.2, rfl⟩
  size := by
    have h1 := F.size
    have h2 := x.size
    rw [sizes_app]; simp only [sizes]; exact om_209 h1 h2
  len := by simp [F.len]
  perm := by
    rw [poss_app, poss_cons, poss_nil, List.append_nil, List.map_append]
    exact F.perm.append x.perm
  few := by
    have h1 := F.few
    have h2 := x.few
    rw [List.length_append]; exact om_210 h1 h2
theorem TabK.nodup {tab : Tab} (x : TabK tab) : (tab.map (·.1)).Nodup := by
  rw [List.Nodup, List.pairwise_map, List.pairwise_iff_getElem]
  intro i j hi hj hij e
  have h1 := x i _ (List.getElem?_eq_getElem hi)
  have h2 := x j _ (List.getElem?_eq_getElem hj)
  exact om_211 hij e h1 h2
theorem TabK.nil : TabK [] := fun i p e => by simp at e


-- part S18
theorem rTree {w : World} {A : Around} {E : Value → Shared → Prop} {s : Shared} {Q : Value → Shared → Prop} {g0 fr g : G} {L D ca TD : Addr} {m : Str → Option Value} {X Y : List (Addr × Obj)} {tab : Tab} {shape : Int} {tsh : Tok} (R : Room A 30 120) (B : Bs w g0) (S : St g0 fr g L m (X ++ Y) s.heap)
    (hX : Mut w g D ca TD tab X) (nm : (TD == sysModules) = false) (hk : TabK tab) (hz : tab.length ≤ 50) (h0 : 0 ≤ shape) (h5 : shape < 5)
    (h : ∀ r t more X' g' h' tb, Le g g' → LT g' r t → TreeOf more t → TabK (tab ++ more) → Mut w g' D ca TD (tab ++ more) X' → St g0 fr g' L m (X' ++ Y) h' → Q r { s with heap := h', toks := tb }) : wpAny (model Pw w) A (call (.ref 117) [.ref D, .ref TD, .int shape tsh]) Q E s := by
  have nd := S.nd
  rw [List.map_append] at nd
  exact law_tree_spec R (B.mono S.le0) S.le hX nm hk hz (fun p hp => ⟨S.mt p (List.mem_append.mpr (.inl hp)), S.gm p (List.mem_append.mpr (.inl hp))⟩) (List.nodup_append.mp nd).1 h0 h5 fun r t more X' g' h' tb hr x hk' hX' C ht => h r t more X' g' h' tb C.gr.le hr x hk' hX' (S.callM C (hX'.fst.trans hX.fst.symm) ht)
section
variable (w : World)
theorem nf_pg3 : plainGet (hd.heap_39 w.params) 36 (Str.ofString "told") = true := by k_is
theorem nf_told : findIn (hd.heap_39 w.params) (.ref 36) (Str.ofString "told") = some (some (.ref 33)) := by k_is
theorem nf_fn : isFn (hd.heap_39 w.params) (.ref 33) = true := by k_is
theorem kp33 : keepIn (hd.heap_39 w.params) (.ref 33) = true := by k_is
end
theorem rTold {w : World} {A : Around} {E : Value → Shared → Prop} {s : Shared} {Q : Value × List Value → Shared → Prop} {g0 fr g : G} {L : Addr} {m : Str → Option Value} {mu : List (Addr × Obj)} {v : Value} {t : T} {pl : Sem Bool} (B : Bs w g0) (S : St g0 fr g L m mu s.heap) (H : NT w g v t)
    (h : Q (.ref 33, [v]) s) : wpAny (model Pw w) A (getMethod v (Str.ofString "told") pl) Q E s := by
  cases H with
  | @mk a l n vk ks hN hL hK =>
  obtain ⟨dx, t1, t2, tn, k, e1, e2⟩ := hN
  refine method_fn (od := some (nodeDict w.params t1 t2 n tn l k)) (S.kin B) ⟨S.le _ _ e1, rfl, rfl, S.le _ _ e2⟩ (plainGet_of (nf_pg3 w)).1 (plainGet_of (nf_pg3 w)).2 (nf_told w) (beq_iff_eq.mp (nf_fn w)) ?_ h
  unfold nodeDict
  unfold shadowIn
  dsimp only
  rw [lookIn_dict]
  rfl
theorem LT.tup {g : G} {v : Value} {t : T} (x : LT g v t) : ∃ a l tn, v = .ref a ∧ TpG g a [.int t.n tn, .ref l] := by
  cases x with
  | mk a b c => exact ⟨_, _, _, rfl, a⟩
theorem NT.notNone {w : World} {g : G} {v : Value} {t : T} (x : NT w g v t) : (!(v == Value.none)) = true := by
  cases x with
  | mk a b c => rfl


-- part S20
set_option maxHeartbeats 8000000 in
theorem law_fin : PySem.Challenge.rw_sa0547_01.Holds := by
  refine hd ?_
  k_go0
  rename_i w s₀ s₁ mg mb G Y fa o pm doc kV ho hg KX X V GL T B TE TW w9 w8 M w7 w6 hcd ns hs hlay0 hL1 hr1 hl2 w4 w3 sa vs w0 hL ra w1 r0 hI hr hc hc' K0 hD h₁ F N0
  refine eF ?_
  have hfin : ∀ h' tb, (∀ b o, s₁.heap.get? b = some o → h'.get? b = some o) → GoodW PySem.Challenge.rw_sa0547_01.row.claim (classAt s₀.heap) (ExcName.means s₀.heap) [ofPy (PyData.list (List.map PyData.int ns))] s₁ (Except.ok (Flow.ret (.bool true))) { s₁ with heap := h', toks := tb } := by
    intro h' tb hk
    refine ⟨.inl ⟨.bool true, .bool true, [], rfl, ?_, ?_, ?_, ?_⟩, hk, rfl, hg⟩
    · intro cls; rfl
    · exact .bool true
    · wrow_post
    · intro _; exact ⟨List.nodup_nil, fun a ha => nomatch ha⟩
  have hkeep : ∀ b o, s₁.heap.get? b = some o → h₁.get? b = some o := F.keep
  have B0 : Bs w s₁.heap.get? := ⟨fun a o e => KX a o e, ⟨mg, mb, s₁.heap, topRead_of T, Le.refl _, KX⟩⟩
  have hns := F.ns
  have hnone : s₁.heap.get? s₁.heap.objs.size = none := none_size _
  have S : St s₁.heap.get? s₁.heap.get? s₁.heap.get? s₁.heap.objs.size (fun y => List.lookup y [(Str.ofString "script", Value.ref sa)].reverse) [] h₁ :=
    ⟨⟨hkeep, Le.refl _, hkeep, fun _ _ e => .inl e⟩, F.ns, (fun _ h => nomatch h), hnone, hnone, (fun _ h => nomatch h), (fun _ h => nomatch h), (fun _ h => nomatch h), List.nodup_nil⟩
  have R : ∀ env, Room (callerA.deeper env) 600 9000 := fun _ => ⟨rfl, by show callerA.depth + 1 + 600 < recursionLimit; decide, by show callerA.units + 3 + 9000 < cLine; decide⟩
  have hl63 : ns.length ≤ 63 := by exact om_212 hc
  have hAll : AllI vs := AllI.of hI
  have zvs := hI.length
  show wpAny (model Pw w) (callerA.deeper (envX (Str.ofString "law") _ s₁.heap.objs.size fa (Value.ref w7) [])) (execs _ (envX (Str.ofString "law") _ s₁.heap.objs.size fa (Value.ref w7) [])) _ _ _
  dsimp only
  refine wpPost fun KL hKL => ?_
  obtain ⟨L, hLL⟩ : ∃ L, L = s₁.heap.objs.size := ⟨_, rfl⟩
  rw [← hLL] at S ⊢
  clear hLL
  clear hcd ho hD N0 F K0 G Y X V GL T B TE TW M
  have hLs : ∀ h : Heap, Le s₁.heap.get? h.get? → h.IsList sa vs.toArray := fun h k => by obtain ⟨o, e, r⟩ := hL; exact ⟨o, k _ _ e, r⟩
  have hd1 : callerA.handled = none := rfl
  have zz : (16777216 : Nat) = sizeLine := sizeLine_eq.symm
  refine wpAny_execs_cons ?_; refine Assign_Tuple_swapped ?_ (by rfl) (by rfl); refine Tuple_ ?_; refine wpAny_items_cons ?_; refine wpAny_Call_NameR ?_
  refine ldG (by assumption) (by assumption) (gnAll _ rfl) ?_; refine callWith_K (St.kin (by assumption) (by assumption)) (kpAll _ _ (by decide)) ?_
  refine wpAny_items_cons ?_; refine ldL (by assumption) (by first | rfl | assumption) ?_; refine wpAny_items_nil ?_
  refine keepB (by assumption) (by assumption) ?_; try dsimp only
  refine law_stock_spec ((R _).le (by exact om_213) (by exact om_214)) B0 S.le hLs hAll (by exact om_154 hl63 zvs) fun D ca X g1 h' tb hX C hXs hXn => ?_
  have S := S.addMs C hXs hXn
  refine wpAny_items_cons ?_; try dsimp only
  cases hX with
  | @mk oD cv k hO hA hcv =>
  refine rNewDict B0 S fun TD oT h' nmT hTd S => ?_
  refine wpAny_items_cons ?_; refine List_ ?_; refine wpAny_items_nil ?_; try dsimp only
  refine rNewList S (Nat.le_of_ble_eq_true rfl) fun tr h' S => ?_
  refine wpAny_items_nil ?_; try dsimp only
  refine rNewTuple S (Nat.le_of_ble_eq_true rfl) fun x h' g2 le2 ht2 S => ?_
  refine rUnpackT hd1 S ht2 rfl fun h' S => ?_
  have S := S.perm (mu' := [(D, oD), (ca, lsOf cv k), (TD, oT), (tr, lsOf [] 0)]) ((List.perm_append_comm (l₁ := [(tr, lsOf [] 0), (TD, oT)]) (l₂ := [(D, oD), (ca, lsOf cv k)])).trans (((List.Perm.swap _ _ _).cons _).cons _))
  have hXs : Stk w D ca [(D, oD), (ca, lsOf cv k)] := .mk hO hA hcv
  have hT0 : TabO w g2 oT [] := ⟨[], hTd _, rfl, fun n b r e => nomatch e⟩
  refine wpAny_assignInOrder_more ?_; refine bindName_ ?_; refine stL (by assumption) fun _ _ => ?_; refine wpAny_assignInOrder_more ?_; refine bindName_ ?_
  refine stL (by assumption) fun _ _ => ?_; refine wpAny_assignInOrder_more ?_; refine bindName_ ?_; refine stL (by assumption) fun _ _ => ?_
  refine wpAny_assignInOrder_none ?_; refine wpAny_execs_cons ?_; refine wpAny_For ?_; refine wpAny_Call_NameR ?_
  refine ldB (by assumption) (by assumption) (bnAll _ rfl) (btAll rfl) (by decide) ?_; refine PyProof.Rows.callWith_type1 ?_; refine wpAny_items_cons ?_
  refine wpAny_BinOp ?_; refine rInt fun _ _ => ?_; refine wpAny_Call_NameR ?_; refine ldG (by assumption) (by assumption) (gnAll _ rfl) ?_
  refine callWith_K (St.kin (by assumption) (by assumption)) (kpAll _ _ (by decide)) ?_; refine wpAny_items_cons ?_
  refine ldL (by assumption) (by first | rfl | assumption) ?_; refine wpAny_items_cons ?_; refine rInt fun _ _ => ?_; refine wpAny_items_nil ?_
  refine keepB (by assumption) (by assumption) ?_; try dsimp only
  rename St _ _ _ _ _ _ _ => S
  refine rPart (X := [(D, oD), (ca, lsOf cv k)]) (Y := [(TD, oT), (tr, lsOf [] 0)]) ((R _).le (by exact om_215) (by exact om_216)) B0 S hXs (by decide) (by decide) fun r1 t1 X1 h' tb p1 p2 hXs S => ?_
  refine rAddI fun _ _ => ?_; refine wpAny_items_nil ?_; try dsimp only
  refine rRange1 S fun rg h' g3 tb le3 hrg S => ?_
  obtain ⟨nt, hnt⟩ : ∃ nt : Nat, 1 + r1 = (nt : Int) := ⟨(1 + r1).toNat, by exact om_217 p1⟩
  rw [hnt] at hrg
  have hnt5 : nt ≤ 5 := by exact om_218 p2 hnt
  cases hXs with
  | @mk oD1 cv1 k1 hO1 hA1 hcv1 =>
  have hMut : Mut w g3 D ca TD [] [(D, oD1), (ca, lsOf cv1 k1), (TD, oT)] := .mk hO1 hA1 hcv1 (hT0.mono le3)
  refine forR (J := fun i g' m' mu' => ∃ X3 tab ts tv kt, Mut w g' D ca TD tab X3 ∧ mu' = X3 ++ [(tr, lsOf tv kt)] ∧ m' (Str.ofString "stock") = some (.ref D) ∧ m' (Str.ofString "table") = some (.ref TD) ∧ m' (Str.ofString "trees") = some (.ref tr) ∧ TabK tab ∧ FI i tab ts ∧ LTs g' tv ts) hd1 S hrg (n := nt) (by rw [rs_up (by exact om_58)]; exact om_219) (sm_up (by exact om_58) (by exact om_220 hnt5))
    ⟨_, [], [], [], 0, hMut, rfl, rfl, rfl, rfl, TabK.nil, FI.nil, .nil⟩ ?_ ?_
  · intro i tt g' m' mq1 X h tk KK hKK hi hJJ hle S
    refine hide fun PP kP => ?_
    obtain ⟨X3, tab, ts, tv, kt, hM, rfl, m1, m2, m3, hTK, hFI, hLT⟩ := hJJ
    refine kP ?_
    clear kP PP
    have ztab := hFI.few
    cases hM with
    | @mk oD2 cv2 k2 oT2 hO2 hA2 hcv2 hTO =>
    refine PyProof.Rows.assign_Name ?_; refine stL (by assumption) fun _ _ => ?_; refine wpAny_execs_cons ?_; refine wpAny_Expr ?_; refine MethodCall_ ?_
    refine ldL (by assumption) (by first | rfl | assumption) ?_; try dsimp only
    rename St _ _ _ _ _ _ _ => S
    refine rMethL (S.mt _ (.tail _ (.tail _ (.tail _ (.head _))))) PySem.F.slot_list_append PySem.F.type_list_append ?_
    refine PyProof.Rows.callWith_method1 ?_; refine wpAny_items_cons ?_; refine wpAny_Call_NameR ?_; refine ldG (by assumption) (by assumption) (gnAll _ rfl) ?_
    refine callWith_K (St.kin (by assumption) (by assumption)) (kpAll _ _ (by decide)) ?_; refine wpAny_items_cons ?_
    refine ldL (by assumption) (by first | rfl | assumption) ?_; refine wpAny_items_cons ?_; refine ldL (by assumption) (by first | rfl | assumption) ?_
    refine wpAny_items_cons ?_; refine wpAny_Call_NameR ?_; refine ldG (by assumption) (by assumption) (gnAll _ rfl) ?_
    refine callWith_K (St.kin (by assumption) (by assumption)) (kpAll _ _ (by decide)) ?_; refine wpAny_items_cons ?_
    refine ldL (by assumption) (by first | rfl | assumption) ?_; refine wpAny_items_cons ?_; refine rInt fun _ _ => ?_; refine wpAny_items_nil ?_
    refine keepB (by assumption) (by assumption) ?_; try dsimp only
    refine rPart (X := [(D, oD2), (ca, lsOf cv2 k2)]) (Y := (TD, oT2) :: (tr, lsOf tv kt) :: X) ((R _).le (by exact om_215) (by exact om_216)) B0 S (.mk hO2 hA2 hcv2) (by decide) (by decide) fun r2 t2 X2 h' tb p3 p4 hXs S => ?_
    cases hXs with
    | @mk oD3 cv3 k3 hO3 hA3 hcv3 =>
    refine wpAny_items_nil ?_; refine keepB (by assumption) (by assumption) ?_; try dsimp only
    refine rTree (X := [(D, oD3), (ca, lsOf cv3 k3), (TD, oT2)]) (Y := (tr, lsOf tv kt) :: X) ((R _).le (by exact om_221) (by exact om_222)) B0 S (.mk hO3 hA3 hcv3 hTO) nmT hTK (by exact om_223 hnt5 hi ztab) p3 p4 fun r t more X4 g4 h' tb le4 hr hTo hTK4 hM4 S => ?_
    refine wpAny_items_nil ?_; try dsimp only
    have ztv := hLT.len
    have zts := hFI.len
    refine rAppend S (.app .here) (by exact om_224 zz hnt5 hi ztv zts) fun h' S => ?_
    refine wpAny_execs_nil ?_; try dsimp only
    refine hKK g4 (fun y => if y = Str.ofString "turn" then some (Value.int (0 + (i : Nat) * 1) tt) else m' y) (X4 ++ [(tr, lsOf (tv ++ [r]) (kt + 1))]) _ _ le4 ?_ ⟨X4, tab ++ more, ts ++ [t], _, _, hM4, rfl, m1, m2, m3, hTK4, hFI.add hTo, (hLT.mono le4).app (.cons hr .nil)⟩
    rw [List.append_assoc]
    exact S
  intro g4 m4 mq1 h tk hJJ hle S
  refine hide fun PP kP => ?_
  obtain ⟨X3, tab, ts, tv, kt, hM, rfl, m1, m2, m3, hTK, hFI, hLT⟩ := hJJ
  refine kP ?_
  clear kP PP
  cases hM with
  | @mk oD2 cv2 k2 oT2 hO2 hA2 hcv2 hTO =>
  have S : St s₁.heap.get? s₁.heap.get? g4 L m4 [(TD, oT2), (tr, lsOf tv kt)] h := S.sub (.cons _ (.cons _ (List.Sublist.refl _)))
  have leT := Le.ins (o := oT2) (S.gm _ (.head _))
  have hTG : TabG w (ins g4 TD oT2) TD tab := ⟨oT2, ins_self _ _ _, hTO.mono leT⟩
  have S := S.freeze
  have hLT := hLT.mono leT
  generalize ins g4 TD oT2 = g5 at *
  obtain ⟨g6, le6, htr, S⟩ := S.frz
  have hTG := hTG.mono le6
  have hLT := hLT.mono le6
  clear hle le6 leT hTO
  have ztv := hLT.len
  have zts := hFI.len
  have zsz := hFI.size
  have ztab := hFI.few
  have zsz1 : ∀ t ∈ ts, t.size ≤ 30 := fun t ht => by
    obtain ⟨i, hi⟩ := List.mem_iff_getElem?.mp ht
    have := size_get hi; exact om_225 hnt5 zsz this
  dsimp only
  refine wpAny_execs_cons ?_; refine Assign_Tuple_swapped ?_ (by rfl) (by rfl); refine Tuple_ ?_; refine wpAny_items_cons ?_; try dsimp only
  refine rCompE (cl := []) ?_ rfl
  refine ldL (by assumption) (by first | rfl | assumption) ?_; try dsimp only
  refine compLE hd1 S htr (by exact om_226 zz hnt5 ztv zts) (J := fun i g' ys => NTs w g' ys (ts.take i)) .nil ?_ ?_
  · intro h0 i v g' ys C mc Y h tk KY KN hKY hKN hi hvi hJ hys hle hm S
    obtain ⟨u, hu, hNu⟩ := hLT.get hvi
    have z3 := zsz1 u (List.mem_of_getElem? hu)
    refine wpAny_tests_nil ?_
    rw [if_pos rfl]
    refine wpAny_Call_NameR ?_; refine ldG (by assumption) (by assumption) (gnAll _ rfl) ?_
    refine callWith_K (St.kin (by assumption) (by assumption)) (kpAll _ _ (by decide)) ?_; refine wpAny_items_cons ?_
    refine ldL (by assumption) (by first | rfl | assumption) ?_; refine wpAny_items_nil ?_; refine keepB (by assumption) (by assumption) ?_; try dsimp only
    refine law_node_spec ((R _).le (by exact om_227 z3) (by exact om_228 z3)) (B0.mono S.le0) S.le (by exact om_229 z3) (hNu.mono hle) fun r g2 h' tb XX hr => ?_
    refine hKY _ _ _ _ _ XX.le (S.call XX) ?_
    dsimp only
    rw [take_one hu]
    exact (hJ.mono XX.le).app (.cons hr .nil)
  intro ndA g7 ndv kn h tk hJn le7 S
  rw [ztv, List.take_of_length_le (Nat.le_refl _)] at hJn
  obtain ⟨g8, le8, hnd, S⟩ := S.frz
  have hNT := hJn.mono le8
  have le78 := le7.trans le8
  refine wpAny_items_cons ?_; try dsimp only
  refine rCompE (cl := []) ?_ rfl
  refine ldL (by assumption) (by first | rfl | assumption) ?_; try dsimp only
  refine compLE hd1 S (htr.mono le78) (by exact om_226 zz hnt5 ztv zts) (J := fun i g' ys => TTs g' ys (ts.take i)) .nil ?_ ?_
  · intro h0 i v g' ys C mc Y h tk KY KN hKY hKN hi hvi hJ hys hle hm S
    obtain ⟨u, hu, hNu⟩ := hLT.get hvi
    have z3 := zsz1 u (List.mem_of_getElem? hu)
    refine wpAny_tests_nil ?_
    rw [if_pos rfl]
    refine wpAny_Call_NameR ?_; refine ldG (by assumption) (by assumption) (gnAll _ rfl) ?_
    refine callWith_K (St.kin (by assumption) (by assumption)) (kpAll _ _ (by decide)) ?_; refine wpAny_items_cons ?_
    refine ldL (by assumption) (by first | rfl | assumption) ?_; refine wpAny_items_nil ?_; refine keepB (by assumption) (by assumption) ?_; try dsimp only
    refine law_told_spec ((R _).le (by exact om_227 z3) (by exact om_228 z3)) (B0.mono S.le0) S.le (by exact om_229 z3) (hNu.mono (le78.trans hle)) fun r g2 h' tb XX hr => ?_
    refine hKY _ _ _ _ _ XX.le (S.call XX) ?_
    dsimp only
    rw [take_one hu]
    exact (hJ.mono XX.le).app (.cons hr .nil)
  intro duA g9 duv kd h tk hJd le9 S
  rw [ztv, List.take_of_length_le (Nat.le_refl _)] at hJd
  obtain ⟨g10, le10, hdu, S⟩ := S.frz
  have hDT := hJd.mono le10
  have le910 := le9.trans le10
  have leA := le78.trans le910
  refine wpAny_items_nil ?_; try dsimp only
  refine rNewTuple S (Nat.le_of_ble_eq_true rfl) fun x h' g11 le11 ht2 S => ?_
  refine rUnpackT hd1 S ht2 rfl fun h' S => ?_
  refine wpAny_assignInOrder_more ?_; refine bindName_ ?_; refine stL (by assumption) fun _ _ => ?_; refine wpAny_assignInOrder_more ?_; refine bindName_ ?_
  refine stL (by assumption) fun _ _ => ?_; refine wpAny_assignInOrder_none ?_; refine wpAny_execs_cons ?_; refine wpAny_Assign_Name ?_; refine List_ ?_
  refine wpAny_items_nil ?_; try dsimp only
  have leB := leA.trans le11
  have hTG := hTG.mono leB
  have hLT := hLT.mono leB
  have htr := htr.mono leB
  have hNT := hNT.mono (le910.trans le11)
  have hnd := hnd.mono (le910.trans le11)
  have hDT := hDT.mono le11
  have hdu := hdu.mono le11
  rename St _ _ _ _ _ _ _ => S
  refine rNewList S (Nat.le_of_ble_eq_true rfl) fun up0 h' S => ?_
  obtain ⟨g12, le12, hup0, S⟩ := S.frz
  refine stL (by assumption) fun _ _ => ?_; refine wpAny_execs_cons ?_; refine wpAny_For ?_; refine ldL (by assumption) (by first | rfl | assumption) ?_
  try dsimp only
  rename St _ _ _ _ _ _ _ => S
  have hLT := hLT.mono le12
  have htr := htr.mono le12
  have hTG := hTG.mono le12
  have hNT := hNT.mono le12
  have hnd := hnd.mono le12
  have hDT := hDT.mono le12
  have hdu := hdu.mono le12
  refine forL (J := fun i g' m' mu' => mu' = [] ∧ ∃ ua uv, m' (Str.ofString "uppers") = some (.ref ua) ∧ m' (Str.ofString "trees") = some (.ref tr) ∧ m' (Str.ofString "table") = some (.ref TD) ∧ m' (Str.ofString "nodes") = some (.ref ndA) ∧ m' (Str.ofString "due") = some (.ref duA) ∧ LsG g' ua uv ∧ PR g' uv (pars 0 (ts.take i))) hd1 S htr
    ⟨rfl, up0, [], rfl, m3, m2, rfl, rfl, hup0, by simpa [pars] using PR.nil⟩ ?_ ?_
  · intro i v g' m' mq1 X h tk KK hKK hvi hJJ hle S
    refine hide fun PP kP => ?_
    obtain ⟨rfl, ua, uv, n1, n2, n3, n4, n5, hua, huv⟩ := hJJ
    refine kP ?_
    clear kP PP
    obtain ⟨u, hu, hNu⟩ := hLT.get hvi
    have z3 := zsz1 u (List.mem_of_getElem? hu)
    refine PyProof.Rows.assign_Name ?_; refine stL (by assumption) fun _ _ => ?_; refine wpAny_execs_cons ?_; refine wpAny_Assign_Name ?_; refine wpAny_BinOp ?_
    refine ldL (by assumption) (by first | rfl | assumption) ?_; refine wpAny_Call_NameR ?_; refine ldG (by assumption) (by assumption) (gnAll _ rfl) ?_
    refine callWith_K (St.kin (by assumption) (by assumption)) (kpAll _ _ (by decide)) ?_; refine wpAny_items_cons ?_
    refine ldL (by assumption) (by first | rfl | assumption) ?_; refine wpAny_items_cons ?_; refine rInt fun _ _ => ?_; refine wpAny_items_nil ?_
    refine keepB (by assumption) (by assumption) ?_; try dsimp only
    rename St _ _ _ _ _ _ _ => S
    refine law_parents_spec ((R _).le (by exact om_227 z3) (by exact om_228 z3)) (B0.mono S.le0) S.le (by exact om_229 z3) (hNu.mono hle) fun r vs2 g2 h' tb XX hl2 hp2 => ?_
    have S := S.call XX
    have z5 := hp2.len
    have z6 := par_len 0 u
    have z7 := pars_len 0 (ts.take i)
    have z4 := huv.len
    have z8 : sizes (ts.take i) ≤ sizes ts := by
      have := sizes_app (ts.take i) (ts.drop i)
      rw [List.take_append_drop] at this; exact om_50 this
    obtain ⟨c1, q1⟩ := id (hua.mono XX.le)
    obtain ⟨c2, q2⟩ := id hl2
    refine rAddL S (S.le _ _ q1) (S.le _ _ q2) (by exact om_230 zz hnt5 zsz z3 z5 z6 z7 z4 z8) fun y h' S => ?_
    obtain ⟨g3, le3, hl3, S⟩ := S.frz
    refine stL (by assumption) fun _ _ => ?_; refine wpAny_execs_nil ?_; try dsimp only
    rename St _ _ _ _ _ _ _ => S
    refine hKK g3 (fun z => if z = Str.ofString "uppers" then some (Value.ref y) else if z = Str.ofString "tree" then some v else m' z) [] _ _ (XX.le.trans le3) S ⟨rfl, y, _, rfl, n2, n3, n4, n5, hl3, ?_⟩
    rw [take_one hu, pars_app]
    simp only [pars, List.append_nil]
    exact (huv.mono (XX.le.trans le3)).app (hp2.mono le3)
  intro g13 m5 mq1 h tk hJJ le13 S
  refine hide fun PP kP => ?_
  obtain ⟨rfl, ua, uv, n1, n2, n3, n4, n5, hua, huv⟩ := hJJ
  refine kP ?_
  clear kP PP
  rw [ztv, List.take_of_length_le (Nat.le_refl _)] at huv
  have hLT := hLT.mono le13
  have htr := htr.mono le13
  have hTG := hTG.mono le13
  have hNT := hNT.mono le13
  have hnd := hnd.mono le13
  have hDT := hDT.mono le13
  have hdu := hdu.mono le13
  have znd : (poss ts).Nodup := hFI.perm.nodup_iff.mpr hTK.nodup
  obtain ⟨zps1, zps2⟩ := parents_same ts znd
  have zpl := pars_len 0 ts
  have zposs : (poss ts).length = tab.length := by have := hFI.perm.length_eq; simpa using this
  dsimp only
  refine wpAny_execs_cons ?_; refine wpAny_If ?_; refine wpAny_isTrue_BoolOp ?_; refine wpAny_allTrue_Or_cons ?_; refine wpAny_isTrue_Compare1 ?_
  refine wpAny_Call_NameR ?_; refine ldG (by assumption) (by assumption) (gnAll _ rfl) ?_
  refine callWith_K (St.kin (by assumption) (by assumption)) (kpAll _ _ (by decide)) ?_; refine wpAny_items_cons ?_
  refine ldL (by assumption) (by first | rfl | assumption) ?_; refine wpAny_items_nil ?_; refine keepB (by assumption) (by assumption) ?_; try dsimp only
  refine parent_numbers_spec ((R _).le (by exact om_221) (by exact om_222)) (B0.mono S.le0) S.le hnd hNT (by exact om_231 hnt5 zsz) fun r1 o1 g14 h' tb XX hr1 nm1 hD1 => ?_
  have S := S.call XX
  have le14 := XX.le
  refine wpAny_Call_NameR ?_; refine ldB (by assumption) (by assumption) (bnAll _ rfl) (btAll rfl) (by decide) ?_; refine PyProof.Rows.callWith_type1 ?_
  refine wpAny_items_cons ?_; refine ldL (by assumption) (by first | rfl | assumption) ?_; refine wpAny_items_nil ?_; try dsimp only
  refine rDictPairs hd1 B0 S (hua.mono le14) (huv.mono le14) (by exact om_232 zz hnt5 zsz zpl) fun D2 o2 h' tb nm2 hD2 S => ?_
  refine rNeDict nm1 nm2 (S.le _ _ hr1) hD1 (S.mt _ (.head _)) hD2 zps1 zps2 (Nat.lt_of_le_of_lt (Nat.le_add_right _ 9000) (R _).un) ?_
  have S := S.drop
  refine wpAny_truthy_bool ?_; refine iteF ?_; refine wpAny_allTrue_Or_cons ?_; refine wpAny_isTrue_Compare1 ?_; refine wpAny_Call_NameR ?_
  refine ldB (by assumption) (by assumption) (bnAll _ rfl) (btAll rfl) (by decide) ?_; refine PyProof.Rows.callWith_builtin1 ?_; refine wpAny_items_cons ?_
  refine wpAny_Call_NameR ?_; refine ldG (by assumption) (by assumption) (gnAll _ rfl) ?_
  refine callWith_K (St.kin (by assumption) (by assumption)) (kpAll _ _ (by decide)) ?_; refine wpAny_items_cons ?_
  refine ldL (by assumption) (by first | rfl | assumption) ?_; refine wpAny_items_nil ?_; refine keepB (by assumption) (by assumption) ?_; try dsimp only
  have hnd := hnd.mono le14
  have hNT := hNT.mono le14
  refine numbers_told_spec ((R _).le (by exact om_221) (by exact om_222)) (B0.mono S.le0) S.le hnd hNT (by exact om_231 hnt5 zsz) fun nl nv g15 h' tb XX hnl hnv => ?_
  have S := S.call XX
  have le15 := XX.le
  have hnv : IntsAre nv (poss ts) := hnv
  refine wpAny_items_nil ?_; try dsimp only
  refine rSortedL S (hnl.at S.le) hnv (by exact om_233 hnt5 ztab zposs) fun s1 sv1 sn1 c1 h' si1 sp1 so1 S => ?_
  refine wpAny_Call_NameR ?_; refine ldB (by assumption) (by assumption) (bnAll _ rfl) (btAll rfl) (by decide) ?_; refine PyProof.Rows.callWith_builtin1 ?_
  refine wpAny_items_cons ?_; refine ldL (by assumption) (by first | rfl | assumption) ?_; refine wpAny_items_nil ?_; try dsimp only
  have hTG15 := hTG.mono (le14.trans le15)
  obtain ⟨oT, eT, kvT, dT, kT, lT⟩ := id hTG15
  have zkv : kvT.length = tab.length := by have := congrArg List.length kT; simpa using this
  refine rSortedD hd1 nmT S (S.le _ _ eT) dT (by exact om_233 hnt5 ztab zkv) fun s2 sv2 sn2 c2 h' tb si2 sp2 so2 S => ?_
  have eS : sn1 = sn2 := ksm_same (sp1.trans (hFI.perm.trans (by rw [← kT]; exact sp2.symm))) so1 so2
  refine rNeInts (S.mt _ (.tail _ (.head _))) si1 (S.mt _ (.head _)) si2 (Nat.lt_of_le_of_lt (Nat.add_le_add_left (by decide : 64 ≤ 9000) _) (R _).un) ?_
  have S := S.drop.drop
  rw [decide_eq_true eS]
  refine wpAny_truthy_bool ?_
  refine iteNT ?_; refine wpAny_allTrue_Or_nil ?_; refine iteF ?_; refine wpAny_execs_nil ?_; refine wpAny_execs_cons ?_; refine wpAny_For ?_
  refine wpAny_Call_NameR ?_; refine ldB (by assumption) (by assumption) (bnAll _ rfl) (btAll rfl) (by decide) ?_; refine PyProof.Rows.callWith_type1 ?_
  refine wpAny_items_cons ?_; refine wpAny_Call_NameR ?_; refine ldB (by assumption) (by assumption) (bnAll _ rfl) (btAll rfl) (by decide) ?_
  refine PyProof.Rows.callWith_builtin1 ?_; refine wpAny_items_cons ?_; refine ldL (by assumption) (by first | rfl | assumption) ?_; refine wpAny_items_nil ?_
  try dsimp only
  have leC := le14.trans le15
  have hLT := hLT.mono leC
  have htr := htr.mono leC
  have hTG := hTG15
  have hNT := hNT.mono le15
  have hnd := hnd.mono le15
  have hDT := hDT.mono leC
  have hdu := hdu.mono leC
  have hua := hua.mono leC
  have huv := huv.mono leC
  have znt := hNT.len
  refine rLenL (htr.at S.le) (by exact om_234 hnt5 ztv zts) fun tz tb => ?_
  refine wpAny_items_nil ?_; try dsimp only
  refine rRange1 S fun rg1 h' g16 tb le16 hrg1 S => ?_
  have hLT := hLT.mono le16
  have htr := htr.mono le16
  have hTG := hTG.mono le16
  have hNT := hNT.mono le16
  have hnd := hnd.mono le16
  have hDT := hDT.mono le16
  have hdu := hdu.mono le16
  have hua := hua.mono le16
  have huv := huv.mono le16
  refine forR (J := fun i g' m' mu' => mu' = [] ∧ m' (Str.ofString "uppers") = some (.ref ua) ∧ m' (Str.ofString "trees") = some (.ref tr) ∧ m' (Str.ofString "table") = some (.ref TD) ∧ m' (Str.ofString "nodes") = some (.ref ndA) ∧ m' (Str.ofString "due") = some (.ref duA)) hd1 S hrg1 (n := tv.length) (by rw [rs_up (by exact om_58)]; exact om_219) (sm_up (by exact om_58) (by exact om_235 hnt5 ztv zts))
    ⟨rfl, n1, n2, n3, n4, n5⟩ ?_ ?_
  · intro i ti g' m' mq1 X h tk KK hKK hi hJJ hle S
    refine hide fun PP kP => ?_
    obtain ⟨rfl, n1, n2, n3, n4, n5⟩ := hJJ
    refine kP ?_
    clear kP PP
    obtain ⟨u1, hu1⟩ : ∃ u, ts[i]? = some u := ⟨_, List.getElem?_eq_getElem (by exact om_132 ztv hi)⟩
    refine PyProof.Rows.assign_Name ?_; refine stL (by assumption) fun _ _ => ?_; refine wpAny_execs_cons ?_; refine wpAny_For ?_; refine wpAny_Call_NameR ?_
    refine ldB (by assumption) (by assumption) (bnAll _ rfl) (btAll rfl) (by decide) ?_; refine PyProof.Rows.callWith_type1 ?_; refine wpAny_items_cons ?_
    refine wpAny_Call_NameR ?_; refine ldB (by assumption) (by assumption) (bnAll _ rfl) (btAll rfl) (by decide) ?_; refine PyProof.Rows.callWith_builtin1 ?_
    refine wpAny_items_cons ?_; refine ldL (by assumption) (by first | rfl | assumption) ?_; refine wpAny_items_nil ?_; try dsimp only
    rename St _ _ _ _ _ _ _ => S
    refine rLenL ((htr.mono hle).at S.le) (by exact om_234 hnt5 ztv zts) fun tz tb => ?_
    refine wpAny_items_nil ?_; try dsimp only
    refine rRange1 S fun rg2 h' g17 tb le17 hrg2 S => ?_
    have le1 := hle.trans le17
    have ei : (0 : Int) + (i : Nat) * 1 = ((i : Nat) : Int) := by exact om_180
    rw [ei] at S
    refine forR (J := fun j g'' m'' mu'' => mu'' = X ∧ m'' (Str.ofString "uppers") = some (.ref ua) ∧ m'' (Str.ofString "trees") = some (.ref tr) ∧ m'' (Str.ofString "table") = some (.ref TD) ∧ m'' (Str.ofString "nodes") = some (.ref ndA) ∧ m'' (Str.ofString "due") = some (.ref duA) ∧ m'' (Str.ofString "one") = some (.int ((i : Nat) : Int) ti)) hd1 S hrg2 (n := tv.length) (by rw [rs_up (by exact om_58)]; exact om_219) (sm_up (by exact om_58) (by exact om_235 hnt5 ztv zts))
      ⟨rfl, n1, n2, n3, n4, n5, rfl⟩ ?_ ?_
    · intro j tj g'' m'' mu'' X2 h tk KK hKK hj hJJ hle2 S
      refine hide fun PP kP => ?_
      obtain ⟨hmu, n1, n2, n3, n4, n5, n6⟩ := hJJ
      refine kP ?_
      clear kP PP
      have leZ := le1.trans hle2
      have ej : (0 : Int) + (j : Nat) * 1 = ((j : Nat) : Int) := by exact om_180
      rw [ej]
      obtain ⟨u2, hu2⟩ : ∃ u, ts[j]? = some u := ⟨_, List.getElem?_eq_getElem (by exact om_132 ztv hj)⟩
      have hO1 := hFI.ok u1 (List.mem_of_getElem? hu1)
      have hO2 := hFI.ok u2 (List.mem_of_getElem? hu2)
      have zu1 := zsz1 u1 (List.mem_of_getElem? hu1)
      have zu2 := zsz1 u2 (List.mem_of_getElem? hu2)
      obtain ⟨vl1, hvl1, hL1⟩ := hLT.at' hu1
      obtain ⟨vl2, hvl2, hL2⟩ := hLT.at' hu2
      obtain ⟨vn1, hvn1, hN1⟩ := hNT.at' hu1
      obtain ⟨vn2, hvn2, hN2⟩ := hNT.at' hu2
      refine PyProof.Rows.assign_Name ?_; refine stL (by assumption) fun _ _ => ?_; refine wpAny_execs_cons ?_; refine wpAny_Assign_Name ?_; refine IfExp_ ?_
      refine wpAny_isTrue_BoolOp ?_; refine wpAny_allTrue_And_cons ?_; refine wpAny_isTrue_Compare1 ?_; refine ldL (by assumption) (by first | rfl | assumption) ?_
      refine ldL (by assumption) (by first | rfl | assumption) ?_; refine ne_int ?_; refine wpAny_truthy_bool ?_; try dsimp only
      rename St _ _ _ _ _ _ _ => S
      obtain ⟨al1, ll1, tn1, rfl, hT1⟩ := hL1.tup
      obtain ⟨al2, ll2, tn2, rfl, hT2⟩ := hL2.tup
      refine rJoinAnd (fun b s' => (b = true → (0 < u2.n ∨ u1.n = 0)) ∧ ∃ h tk, s' = { s₁ with heap := h, toks := tk } ∧ St s₁.heap.get? s₁.heap.get? g'' L (fun y => if y = Str.ofString "other" then some (Value.int ((j : Nat) : Int) tj) else m'' y) (mu'' ++ X2) h) ?_ ?_ ?_
      · intro hc
        refine wpAny_allTrue_And_cons ?_; refine wpAny_isTrue_BoolOp ?_; refine wpAny_allTrue_Or_cons ?_; refine wpAny_isTrue_Compare1 ?_; refine Subscript_ ?_
        refine Subscript_ ?_; refine ldL (by assumption) (by first | rfl | assumption) ?_; refine ldL (by assumption) (by first | rfl | assumption) ?_; try dsimp only
        refine rItemL ((htr.mono leZ).at S.le) (by exact om_58) (by exact om_236 hnt5 ztv zts hj) (by simpa using hvl2) ?_
        refine rInt fun _ _ => ?_; try dsimp only
        refine rItemT ((hT2.mono leZ).at S.le) (by decide) (by decide) rfl rfl ?_
        refine rInt fun _ _ => ?_; refine gt_int ?_; refine wpAny_truthy_bool ?_; try dsimp only
        by_cases hp : 0 < u2.n
        · rw [if_pos (by simpa using hp)]
          refine wpAny_allTrue_And_nil ?_
          exact ⟨fun _ => .inl hp, _, _, rfl, S⟩
        · rw [if_neg (by simpa using hp)]
          refine wpAny_allTrue_Or_cons ?_; refine wpAny_isTrue_Compare1 ?_; refine Subscript_ ?_; refine Subscript_ ?_
          refine ldL (by assumption) (by first | rfl | assumption) ?_; refine ldL (by assumption) (by first | rfl | assumption) ?_; try dsimp only
          refine rItemL ((htr.mono leZ).at S.le) (by exact om_58) (by exact om_236 hnt5 ztv zts hi) (by simpa using hvl1) ?_
          refine rInt fun _ _ => ?_; try dsimp only
          refine rItemT ((hT1.mono leZ).at S.le) (by decide) (by decide) rfl rfl ?_
          refine rInt fun _ _ => ?_; refine eq_int ?_; refine wpAny_truthy_bool ?_; try dsimp only
          by_cases hq : u1.n = 0
          · rw [if_pos (by simpa using hq)]
            rw [if_pos rfl]
            refine wpAny_allTrue_And_nil ?_
            exact ⟨fun _ => .inr hq, _, _, rfl, S⟩
          · rw [if_neg (by simpa using hq)]
            refine wpAny_allTrue_Or_nil ?_; refine iteF ?_; try dsimp only
            exact ⟨(fun e => nomatch e), _, _, rfl, S⟩
      · intro hc
        exact ⟨(fun e => nomatch e), _, _, rfl, S⟩
      intro b s' hJJ
      refine hide fun PP kP => ?_
      obtain ⟨hb, h, tk, rfl, S⟩ := hJJ
      refine kP ?_
      clear kP PP
      cases b with
      | true =>
        have hb := hb rfl
        have hne1 : u1.n ≠ 0 → 0 < u2.n := fun q => hb.resolve_right q
        refine iteT ?_; refine wpAny_Call_NameR ?_; refine ldG (by assumption) (by assumption) (gnAll _ rfl) ?_
        refine callWith_K (St.kin (by assumption) (by assumption)) (kpAll _ _ (by decide)) ?_; refine wpAny_items_cons ?_; refine Subscript_ ?_
        refine ldL (by assumption) (by first | rfl | assumption) ?_; refine ldL (by assumption) (by first | rfl | assumption) ?_; try dsimp only
        refine rItemL ((hnd.mono leZ).at S.le) (by exact om_58) (by exact om_236 hnt5 ztv zts hi) (by simpa using hvn1) ?_
        refine wpAny_items_cons ?_; refine Subscript_ ?_; refine ldL (by assumption) (by first | rfl | assumption) ?_
        refine ldL (by assumption) (by first | rfl | assumption) ?_; try dsimp only
        refine rItemL ((hnd.mono leZ).at S.le) (by exact om_58) (by exact om_236 hnt5 ztv zts hj) (by simpa using hvn2) ?_
        refine wpAny_items_cons ?_; refine ldL (by assumption) (by first | rfl | assumption) ?_; refine wpAny_items_nil ?_
        refine keepB (by assumption) (by assumption) ?_; try dsimp only
        have zk1 : u1.ks.length ≤ u1.size := by cases u1 with | mk n ks => have := len_sizes ks; simp only [T.ks, T.size]; exact om_48 this
        have zk2 : u2.ks.length ≤ u2.size := by cases u2 with | mk n ks => have := len_sizes ks; simp only [T.ks, T.size]; exact om_48 this
        have zj := joinT_size tab u1 u2
        refine joined_spec ((R _).le (by exact om_213) (by exact om_214)) (B0.mono S.le0) S.le (hN1.mono leZ) (hN2.mono leZ) (hTG.mono leZ) (fun q => ⟨⟨_, _, hO1.num q⟩, _, _, hO2.num (by have := hne1 q; exact om_27 this)⟩) (by exact om_237 zz zu1 zu2 zk1 zk2) fun r g18 h' tb XX hr => ?_
        have S := S.call XX
        have le18 := leZ.trans XX.le
        refine stL (by assumption) fun _ _ => ?_; refine wpAny_execs_cons ?_; refine wpAny_If ?_; refine wpAny_isTrue_BoolOp ?_; refine wpAny_allTrue_And_cons ?_
        refine wpAny_isTrue_Compare1 ?_; refine ldL (by assumption) (by first | rfl | assumption) ?_; refine wpAny_Constant_none ?_; try dsimp only
        rename St _ _ _ _ _ _ _ => S
        refine isNot_none ?_
        rw [hr.notNone]
        refine wpAny_truthy_bool ?_
        rw [if_pos rfl]
        refine wpAny_allTrue_And_cons ?_; refine wpAny_isTrue_Compare1 ?_; refine MethodCall_ ?_; refine ldL (by assumption) (by first | rfl | assumption) ?_
        try dsimp only
        refine rTold B0 S hr ?_
        refine callWith_K0 (St.kin (by assumption) (by assumption)) (kp33 _) ?_; try dsimp only
        refine told_spec ((R _).le (by exact om_213) (by exact om_214)) (B0.mono S.le0) S.le hr (by exact om_238 zu1 zu2 zj) fun rt g19 h' tb YY hrt => ?_
        have S := S.call YY
        have le19 := le18.trans YY.le
        refine wpAny_Call_NameR ?_; refine ldG (by assumption) (by assumption) (gnAll _ rfl) ?_
        refine callWith_K (St.kin (by assumption) (by assumption)) (kpAll _ _ (by decide)) ?_; refine wpAny_items_cons ?_; refine wpAny_Call_NameR ?_
        refine ldG (by assumption) (by assumption) (gnAll _ rfl) ?_; refine callWith_K (St.kin (by assumption) (by assumption)) (kpAll _ _ (by decide)) ?_
        refine wpAny_items_cons ?_; refine Subscript_ ?_; refine ldL (by assumption) (by first | rfl | assumption) ?_
        refine ldL (by assumption) (by first | rfl | assumption) ?_; try dsimp only
        refine rItemL ((htr.mono le19).at S.le) (by exact om_58) (by exact om_236 hnt5 ztv zts hi) (by simpa using hvl1) ?_
        refine wpAny_items_cons ?_; refine Subscript_ ?_; refine ldL (by assumption) (by first | rfl | assumption) ?_
        refine ldL (by assumption) (by first | rfl | assumption) ?_; try dsimp only
        refine rItemL ((htr.mono le19).at S.le) (by exact om_58) (by exact om_236 hnt5 ztv zts hj) (by simpa using hvl2) ?_
        refine wpAny_items_cons ?_; refine ldL (by assumption) (by first | rfl | assumption) ?_; refine wpAny_items_nil ?_
        refine keepB (by assumption) (by assumption) ?_; try dsimp only
        refine law_joined_spec ((R _).le (by exact om_213) (by exact om_214)) (B0.mono S.le0) S.le (hL1.mono le19) (hL2.mono le19) (hTG.mono le19) (fun q => ⟨hne1 q, ⟨_, _, hO1.num q⟩, _, _, hO2.num (by have := hne1 q; exact om_27 this)⟩) (by exact om_237 zz zu1 zu2 zk1 zk2) fun lj g20 h' tb ZZ hlj => ?_
        have S := S.call ZZ
        refine wpAny_items_nil ?_; refine keepB (by assumption) (by assumption) ?_; try dsimp only
        refine law_told_spec ((R _).le (by exact om_239 zu1 zu2 zj) (by exact om_240 zu1 zu2 zj)) (B0.mono S.le0) S.le (by exact om_238 zu1 zu2 zj) hlj fun lt g21 h' tb WW hlt => ?_
        have S := S.call WW
        try dsimp only
        have leE := ZZ.le.trans WW.le
        refine rNeTT S.le (hrt.mono leE) hlt (Nat.lt_of_le_of_lt (Nat.add_le_add_left (by exact om_241 zu1 zu2 zj : 2 * (joinT tab u1 u2).size ≤ 9000) _) (R _).un) ?_
        refine wpAny_truthy_bool ?_
        refine iteF ?_; refine iteF ?_; refine wpAny_execs_nil ?_; refine wpAny_execs_nil ?_; try dsimp only
        refine hKK g21 (fun y => if y = Str.ofString "both" then some r else if y = Str.ofString "other" then some (Value.int ((j : Nat) : Int) tj) else m'' y) mu'' _ _ ((XX.le.trans YY.le).trans leE) S ⟨hmu, n1, n2, n3, n4, n5, n6⟩
      | false =>
        refine iteF ?_; refine wpAny_Constant_none ?_; refine stL (by assumption) fun _ _ => ?_; refine wpAny_execs_cons ?_; refine wpAny_If ?_
        refine wpAny_isTrue_BoolOp ?_; refine wpAny_allTrue_And_cons ?_; refine wpAny_isTrue_Compare1 ?_; refine ldL (by assumption) (by first | rfl | assumption) ?_
        refine wpAny_Constant_none ?_; try dsimp only
        rename St _ _ _ _ _ _ _ => S
        refine isNot_none ?_
        refine wpAny_truthy_bool ?_
        rw [if_neg (show ¬ (!(Value.none == Value.none)) = true from fun e => by cases e)]
        refine iteF ?_; refine wpAny_execs_nil ?_; refine wpAny_execs_nil ?_; try dsimp only
        refine hKK g'' (fun y => if y = Str.ofString "both" then some Value.none else if y = Str.ofString "other" then some (Value.int ((j : Nat) : Int) tj) else m'' y) mu'' _ _ (Le.refl _) S ⟨hmu, n1, n2, n3, n4, n5, n6⟩
    · intro g'' m'' mq1 h tk hJJ
      refine hide fun PP kP => ?_
      obtain ⟨rfl, n1, n2, n3, n4, n5, n6⟩ := hJJ
      refine kP ?_
      clear kP PP
      intro hle2 S
      refine wpAny_execs_nil ?_; try dsimp only
      exact hKK g'' m'' [] _ _ (le17.trans hle2) S ⟨rfl, n1, n2, n3, n4, n5⟩
  intro g17 m6 mq1 h tk hJJ le17 S
  refine hide fun PP kP => ?_
  obtain ⟨rfl, n1, n2, n3, n4, n5⟩ := hJJ
  refine kP ?_
  clear kP PP
  dsimp only
  have hLT := hLT.mono le17
  have htr := htr.mono le17
  have hTG := hTG.mono le17
  have hNT := hNT.mono le17
  have hnd := hnd.mono le17
  have hDT := hDT.mono le17
  have hdu := hdu.mono le17
  have hua := hua.mono le17
  have huv := huv.mono le17
  obtain ⟨hgp, hgs⟩ := gather_inv tab ts hFI.ok
  have hge := gather_same tab ts hFI.ok
  have zg : sizes (gatherT tab ts) ≤ 40 := by exact om_242 hnt5 zts zsz hgs
  have zg1 : ∀ t ∈ gatherT tab ts, t.size ≤ 40 := fun t ht => by
    obtain ⟨i, hi⟩ := List.mem_iff_getElem?.mp ht
    have := size_get hi; exact om_243 zg this
  have zgl := len_sizes (gatherT tab ts)
  refine wpAny_execs_cons ?_; try dsimp only
  refine rCompA (cl := []) ?_ (by rfl) (by rfl)
  refine wpAny_Call_NameR ?_; refine ldG (by assumption) (by assumption) (gnAll _ rfl) ?_
  refine callWith_K (St.kin (by assumption) (by assumption)) (kpAll _ _ (by decide)) ?_; refine wpAny_items_cons ?_
  refine ldL (by assumption) (by first | rfl | assumption) ?_; refine wpAny_items_cons ?_; refine ldL (by assumption) (by first | rfl | assumption) ?_
  refine wpAny_items_nil ?_; refine keepB (by assumption) (by assumption) ?_; try dsimp only
  refine law_gathered_spec ((R _).le (by exact om_244) (by exact om_245)) (B0.mono S.le0) S.le htr hLT hTG hFI.ok (by exact om_246 hnt5 zts) (fun t ht => by have := zsz1 t ht; exact om_229 this) fun lg lgv g18 h' tb XX hlg hlgv => ?_
  have S := S.call XX
  have le18 := XX.le
  rw [← hge] at hlgv
  have zlg := hlgv.len
  refine compLB hd1 S hlg (by exact om_247 zz zg zgl zlg) (J := fun i g' ys => TTs g' ys ((gatherT tab ts).take i)) .nil ?_ ?_
  · intro h0 i v g' ys C mc Y h tk KY KN hKY hKN hi hvi hJ hys hle hm S
    obtain ⟨u, hu, hNu⟩ := hlgv.get hvi
    have z3 := zg1 u (List.mem_of_getElem? hu)
    refine wpAny_tests_nil ?_
    rw [if_pos rfl]
    refine wpAny_Call_NameR ?_; refine ldG (by assumption) (by assumption) (gnAll _ rfl) ?_
    refine callWith_K (St.kin (by assumption) (by assumption)) (kpAll _ _ (by decide)) ?_; refine wpAny_items_cons ?_
    refine ldL (by assumption) (by first | rfl | assumption) ?_; refine wpAny_items_nil ?_; refine keepB (by assumption) (by assumption) ?_; try dsimp only
    refine law_told_spec ((R _).le (by exact om_248 z3) (by exact om_249 z3)) (B0.mono S.le0) S.le (by exact om_250 z3) (hNu.mono hle) fun r g2 h' tb XX hr => ?_
    refine hKY _ _ _ _ _ XX.le (S.call XX) ?_
    dsimp only
    rw [take_one hu]
    exact (hJ.mono XX.le).app (.cons hr .nil)
  intro toA g19 tov kto h tk hJt le19 S
  rw [zlg, List.take_of_length_le (Nat.le_refl _)] at hJt
  obtain ⟨g20, le20, hto, S⟩ := S.frz
  have hTO := hJt.mono le20
  have leD := (le18.trans le19).trans le20
  have hLT := hLT.mono leD
  have htr := htr.mono leD
  have hTG := hTG.mono leD
  have hNT := hNT.mono leD
  have hnd := hnd.mono leD
  have hDT := hDT.mono leD
  have hdu := hdu.mono leD
  have hua := hua.mono leD
  have huv := huv.mono leD
  refine wpAny_execs_cons ?_; refine wpAny_For ?_; refine wpAny_Call_NameR ?_; refine ldB (by assumption) (by assumption) (bnAll _ rfl) (btAll rfl) (by decide) ?_
  refine PyProof.Rows.callWith_type1 ?_; refine wpAny_items_cons ?_; refine rInt fun _ _ => ?_; refine wpAny_items_nil ?_; try dsimp only
  refine rRange1 S fun rg3 h' g21 tb le21 hrg3 S => ?_
  have hLT := hLT.mono le21
  have htr := htr.mono le21
  have hTG := hTG.mono le21
  have hNT := hNT.mono le21
  have hnd := hnd.mono le21
  have hDT := hDT.mono le21
  have hdu := hdu.mono le21
  have hua := hua.mono le21
  have huv := huv.mono le21
  have hTO := hTO.mono le21
  have hto := hto.mono le21
  refine forR (J := fun i g' m' mu' => mu' = [] ∧ m' (Str.ofString "uppers") = some (.ref ua) ∧ m' (Str.ofString "table") = some (.ref TD) ∧ m' (Str.ofString "nodes") = some (.ref ndA) ∧ m' (Str.ofString "due") = some (.ref duA) ∧ m' (Str.ofString "together") = some (.ref toA)) hd1 S hrg3 (n := 2) (by decide) (by decide)
    ⟨rfl, n1, n3, n4, n5, rfl⟩ ?_ ?_
  · intro i ti g' m' mq1 X h tk KK hKK hi hJJ hle S
    refine hide fun PP kP => ?_
    obtain ⟨rfl, n1, n3, n4, n5, n6⟩ := hJJ
    refine kP ?_
    clear kP PP
    refine PyProof.Rows.assign_Name ?_; refine stL (by assumption) fun _ _ => ?_; refine wpAny_execs_cons ?_; refine wpAny_Assign_Name ?_; refine wpAny_Call_NameR ?_
    refine ldG (by assumption) (by assumption) (gnAll _ rfl) ?_; refine callWith_K (St.kin (by assumption) (by assumption)) (kpAll _ _ (by decide)) ?_
    refine wpAny_items_cons ?_; refine ldL (by assumption) (by first | rfl | assumption) ?_; refine wpAny_items_cons ?_
    refine ldL (by assumption) (by first | rfl | assumption) ?_; refine wpAny_items_nil ?_; refine keepB (by assumption) (by assumption) ?_; try dsimp only
    rename St _ _ _ _ _ _ _ => S
    refine gathered_spec ((R _).le (by exact om_244) (by exact om_245)) (B0.mono S.le0) S.le (hnd.mono hle) (hNT.mono hle) (hTG.mono hle) hFI.ok (by exact om_246 hnt5 zts) (fun t ht => by have := zsz1 t ht; exact om_229 this) fun fo fov g22 h' tb XX hfo hfov => ?_
    have S := S.call XX
    have le22 := hle.trans XX.le
    have zfo := hfov.len
    refine stL (by assumption) fun _ _ => ?_; refine wpAny_execs_cons ?_; refine wpAny_If ?_; refine wpAny_isTrue_BoolOp ?_; refine wpAny_allTrue_Or_cons ?_
    refine wpAny_isTrue_Compare1 ?_; try dsimp only
    rename St _ _ _ _ _ _ _ => S
    refine rCompE (cl := []) ?_ rfl
    refine ldL (by assumption) (by first | rfl | assumption) ?_; try dsimp only
    refine compLE hd1 S hfo (by exact om_247 zz zg zgl zfo) (J := fun i g' ys => TTs g' ys ((gatherT tab ts).take i)) .nil ?_ ?_
    · intro h0 q v g' ys C mc Y h tk KY KN hKY hKN hq hvq hJ hys hle3 hm S
      obtain ⟨u, hu, hNu⟩ := hfov.get hvq
      have z3 := zg1 u (List.mem_of_getElem? hu)
      refine wpAny_tests_nil ?_
      rw [if_pos rfl]
      refine MethodCall_ ?_; refine ldL (by assumption) (by first | rfl | assumption) ?_; try dsimp only
      refine rTold B0 S (hNu.mono hle3) ?_
      refine callWith_K0 (St.kin (by assumption) (by assumption)) (kp33 _) ?_; try dsimp only
      refine told_spec ((R _).le (by exact om_213) (by exact om_214)) (B0.mono S.le0) S.le (hNu.mono hle3) (by exact om_250 z3) fun r g2 h' tb YY hr => ?_
      refine hKY _ _ _ _ _ YY.le (S.call YY) ?_
      dsimp only
      rw [take_one hu]
      exact (hJ.mono YY.le).app (.cons hr .nil)
    intro taA g23 tav kta h tk hJa le23 S
    rw [zfo, List.take_of_length_le (Nat.le_refl _)] at hJa
    have le24 := le22.trans le23
    refine ldL (by assumption) (by first | rfl | assumption) ?_; try dsimp only
    obtain ⟨cto, qto⟩ := id (hto.mono le24)
    refine rNeTTs S.le (S.mt _ (.head _)) hJa (S.le _ _ qto) (hTO.mono le24) (Nat.lt_of_le_of_lt (Nat.add_le_add_left (by exact om_251 zg : 2 * sizes (gatherT tab ts) + 1 ≤ 9000) _) (R _).un) ?_
    have S := S.drop
    refine wpAny_truthy_bool ?_
    refine iteF ?_; refine wpAny_allTrue_Or_cons ?_; refine wpAny_isTrue_Compare1 ?_; refine wpAny_Call_NameR ?_
    refine ldB (by assumption) (by assumption) (bnAll _ rfl) (btAll rfl) (by decide) ?_; refine PyProof.Rows.callWith_builtin1 ?_; refine wpAny_items_cons ?_
    refine wpAny_Call_NameR ?_; refine ldG (by assumption) (by assumption) (gnAll _ rfl) ?_
    refine callWith_K (St.kin (by assumption) (by assumption)) (kpAll _ _ (by decide)) ?_; refine wpAny_items_cons ?_
    refine ldL (by assumption) (by first | rfl | assumption) ?_; refine wpAny_items_nil ?_; refine keepB (by assumption) (by assumption) ?_; try dsimp only
    refine numbers_told_spec ((R _).le (by exact om_221) (by exact om_222)) (B0.mono S.le0) S.le (hfo.mono le23) (hfov.mono le23) (by exact om_250 zg) fun nl nv g25 h' tb XX2 hnl hnv => ?_
    have S := S.call XX2
    have le25 := le24.trans XX2.le
    have hnv : IntsAre nv (poss (gatherT tab ts)) := hnv
    have zpg := hgp.length_eq
    refine wpAny_items_nil ?_; try dsimp only
    refine rSortedL S (hnl.at S.le) hnv (by exact om_252 hnt5 ztab zposs zpg) fun s1 sv1 sn1 c1 h' si1 sp1 so1 S => ?_
    refine wpAny_Call_NameR ?_; refine ldB (by assumption) (by assumption) (bnAll _ rfl) (btAll rfl) (by decide) ?_; refine PyProof.Rows.callWith_builtin1 ?_
    refine wpAny_items_cons ?_; refine ldL (by assumption) (by first | rfl | assumption) ?_; refine wpAny_items_nil ?_; try dsimp only
    obtain ⟨oT, eT, kvT, dT, kT, lT⟩ := id (hTG.mono le25)
    have zkv : kvT.length = tab.length := by have := congrArg List.length kT; simpa using this
    refine rSortedD hd1 nmT S (S.le _ _ eT) dT (by exact om_233 hnt5 ztab zkv) fun s2 sv2 sn2 c2 h' tb si2 sp2 so2 S => ?_
    have eS : sn1 = sn2 := ksm_same (sp1.trans (hgp.trans (hFI.perm.trans (by rw [← kT]; exact sp2.symm)))) so1 so2
    refine rNeInts (S.mt _ (.tail _ (.head _))) si1 (S.mt _ (.head _)) si2 (Nat.lt_of_le_of_lt (Nat.add_le_add_left (by decide : 64 ≤ 9000) _) (R _).un) ?_
    have S := S.drop.drop
    rw [decide_eq_true eS]
    refine wpAny_truthy_bool ?_
    refine iteNT ?_; refine wpAny_allTrue_Or_nil ?_; refine iteF ?_; refine wpAny_execs_nil ?_; refine wpAny_execs_nil ?_; try dsimp only
    refine hKK g25 (fun y => if y = Str.ofString "found" then some (Value.ref fo) else if y = Str.ofString "turn" then some (Value.int (0 + (i : Nat) * 1) ti) else m' y) [] _ _ ((XX.le.trans le23).trans XX2.le) S ⟨rfl, n1, n3, n4, n5, n6⟩
  intro g22 m7 mq1 h tk hJJ le22 S
  refine hide fun PP kP => ?_
  obtain ⟨rfl, n1, n3, n4, n5, n6⟩ := hJJ
  refine kP ?_
  clear kP PP
  have hNT := hNT.mono le22
  have hnd := hnd.mono le22
  have hDT := hDT.mono le22
  have hdu := hdu.mono le22
  have hua := hua.mono le22
  have huv := huv.mono le22
  dsimp only
  refine wpAny_execs_cons ?_; refine wpAny_Return_some ?_; try dsimp only
  refine BoolOp_and ?_
  refine wpAny_Compare1 ?_; try dsimp only
  refine rCompE (cl := []) ?_ rfl
  refine ldL (by assumption) (by first | rfl | assumption) ?_; try dsimp only
  refine compLE hd1 S hnd (by exact om_253 zz hnt5 zts znt) (J := fun i g' ys => TTs g' ys (ts.take i)) .nil ?_ ?_
  · intro h0 q v g' ys C mc Y h tk KY KN hKY hKN hq hvq hJ hys hle3 hm S
    obtain ⟨u, hu, hNu⟩ := hNT.get hvq
    have z3 := zsz1 u (List.mem_of_getElem? hu)
    refine wpAny_tests_nil ?_
    rw [if_pos rfl]
    refine MethodCall_ ?_; refine ldL (by assumption) (by first | rfl | assumption) ?_; try dsimp only
    refine rTold B0 S (hNu.mono hle3) ?_
    refine callWith_K0 (St.kin (by assumption) (by assumption)) (kp33 _) ?_; try dsimp only
    refine told_spec ((R _).le (by exact om_213) (by exact om_214)) (B0.mono S.le0) S.le (hNu.mono hle3) (by exact om_229 z3) fun r g2 h' tb YY hr => ?_
    refine hKY _ _ _ _ _ YY.le (S.call YY) ?_
    dsimp only
    rw [take_one hu]
    exact (hJ.mono YY.le).app (.cons hr .nil)
  intro taA g23 tav kta h tk hJa le23 S
  rw [znt, List.take_of_length_le (Nat.le_refl _)] at hJa
  refine ldL (by assumption) (by first | rfl | assumption) ?_; try dsimp only
  obtain ⟨cdu, qdu⟩ := id (hdu.mono le23)
  refine rEqTTs S.le (S.mt _ (.head _)) hJa (S.le _ _ qdu) (hDT.mono le23) (Nat.lt_of_le_of_lt (Nat.add_le_add_left (by exact om_254 hnt5 zsz : 2 * sizes ts + 1 ≤ 9000) _) (R _).un) ?_
  have S := S.drop
  refine wpAny_truthy_bool ?_
  rw [if_pos rfl]
  refine BoolOp_one ?_
  refine wpAny_Compare1 ?_; refine wpAny_Call_NameR ?_; refine ldG (by assumption) (by assumption) (gnAll _ rfl) ?_
  refine callWith_K (St.kin (by assumption) (by assumption)) (kpAll _ _ (by decide)) ?_; refine wpAny_items_cons ?_
  refine ldL (by assumption) (by first | rfl | assumption) ?_; refine wpAny_items_nil ?_; refine keepB (by assumption) (by assumption) ?_; try dsimp only
  refine parent_numbers_spec ((R _).le (by exact om_221) (by exact om_222)) (B0.mono S.le0) S.le (hnd.mono le23) (hNT.mono le23) (by exact om_231 hnt5 zsz) fun r2 o2' g24 h' tb XX hr2 nm1 hD1 => ?_
  have S := S.call XX
  refine wpAny_Call_NameR ?_; refine ldB (by assumption) (by assumption) (bnAll _ rfl) (btAll rfl) (by decide) ?_; refine PyProof.Rows.callWith_type1 ?_
  refine wpAny_items_cons ?_; refine ldL (by assumption) (by first | rfl | assumption) ?_; refine wpAny_items_nil ?_; try dsimp only
  refine rDictPairs hd1 B0 S (hua.mono (le23.trans XX.le)) (huv.mono (le23.trans XX.le)) (by exact om_232 zz hnt5 zsz zpl) fun D2 o2 h' tb nm2 hD2 S => ?_
  refine rEqDict nm1 nm2 (S.le _ _ hr2) hD1 (S.mt _ (.head _)) hD2 zps1 zps2 (Nat.lt_of_le_of_lt (Nat.le_add_right _ 9000) (R _).un) ?_
  exact hKL _ _ (hfin _ _ S.gr.frm)

end Mine
set_option maxRecDepth 100000 in
theorem PySem.Challenge.cw_sa0547_01_holds : PySem.Challenge.rw_sa0547_01.Holds := by
  exact Mine.law_fin
