import PyProof.Rows.All
import Wide.All
import OpenK.AllK
import Wide.FinOn
import Lean
import PySem.Challenge.RW_og0075_01
open PySem PySem.W PyProof.Rows
set_option Elab.async false
namespace Mine
-- with this lid on instances the head is proved at once and not in pieces: a fifth of the size
set_option synthInstance.maxSize 1 in
set_option maxRecDepth 100000 in
set_option maxHeartbeats 8000000 in
open_top hd for PySem.Challenge.rw_og0075_01
-- the head leaves the library's top lines on; the texts were built with them off
theorem topOff : True := by
  w_top off
  trivial
open PySem.Calls
set_option maxRecDepth 100000
set_option maxHeartbeats 8000000
set_option linter.unusedVariables false
set_option linter.unusedSimpArgs false
section
-- AR
theorem ar1 {x0 x1 x2 x3 : Nat} (h0 : (((x0 + x1) + (x2 + 1)) ≤ x3)) : (((x0 + (x1 + 1)) + x2) ≤ x3) := by lia
theorem ar2 {x0 x1 x2 x3 : Nat} (h0 : (((x0 + x1) + (x2 + 1)) ≤ x3)) : ((x0 + x1) < x3) := by exact Nat.lt_of_add_right_lt h0
theorem ar3 {x0 x1 : Nat} : ((x0 + (x1 + 1)) = ((x0 + x1) + 1)) := by exact Eq.symm (Nat.add_assoc x0 x1 1)
theorem ar4 {x0 x1 x2 : Nat} : ((x0 + x1) < ((x0 + (x1 + 1)) + x2)) := by lia
theorem ar5 {x0 x1 x2 : Nat} : (((x0 + (x1 + 1)) + x2) = ((x0 + x1) + (x2 + 1))) := by exact Nat.succ_add_eq_add_succ (x0.add x1) x2
theorem ar6 {x0 x1 : Nat} (h0 : (x0 ≤ x1)) : (x1 = (x0 + (x1 - x0))) := by exact Eq.symm (Nat.add_sub_of_le h0)
theorem ar7 {x0 x1 x2 : Nat} (h0 : ((x0 + x1) ≤ x2)) : (x2 = ((x0 + x1) + (x2 - (x0 + x1)))) := by exact Eq.symm (Nat.add_sub_of_le h0)
theorem ar8 {x0 x1 x2 x3 : Nat} (h0 : ((x0 + x1) < x2)) (h1 : (x2 ≤ x3)) : (x1 < ((min x2 x3) - x0)) := by lia
theorem ar9 {x0 x1 x2 : Nat} (h0 : ((x0 + x1) = x2)) (h1 : (1 ≤ x1)) : (x0 < x2) := by lia
theorem ar10 {x0 : Nat} (h0 : (1 ≤ x0)) : (0 < x0) := by exact Nat.zero_lt_of_lt h0
theorem ar11 {x0 x1 x2 : Nat} (h0 : ((x0 + x1) = x2)) : ((0 + x0) ≤ x2) := by lia
theorem ar12 {x0 x1 x2 x3 x4 : Nat} (h0 : ((x0 + x1) = x2)) (h1 : (x3 < x4)) (h2 : (x4 ≤ x0)) : (x3 < x2) := by lia
theorem ar13 {x0 x1 x2 : Nat} (h0 : (x0 < x1)) (h1 : (x1 ≤ x2)) : (x0 ≠ x2) := by lia
theorem ar14 {x0 x1 : Nat} (h0 : (x0 ≠ x1)) (h1 : (¬ (x1 < x0))) : (x0 < x1) := by lia
theorem ar15 {x0 x1 : Nat} (h0 : ((x0 - x1) = 0)) (h1 : (x1 ≤ x0)) : (x1 = x0) := by lia
theorem ar16 {x0 : Nat} : (0 ≤ x0) := by exact Nat.zero_le x0
theorem ar17 {x0 x1 x2 : Nat} (h0 : (x0 < x1)) (h1 : (x2 = x1)) : (x0 < x2) := by exact Nat.lt_of_lt_of_eq h0 (id (Eq.symm h1))
theorem ar18 {x0 : Nat} : (x0 ≤ x0) := by exact Nat.le_refl x0
theorem ar19 {x0 x1 x2 x3 : Nat} (h0 : ((x0 + x1) = x2)) (h1 : (x3 < x2)) : (x3 < (x0 + x1)) := by exact Nat.lt_of_lt_of_eq h1 (id (Eq.symm h0))
theorem ar20 {x0 x1 : Nat} (h0 : ((x0 - x1) ≠ 0)) : (x1 < x0) := by exact Nat.sub_ne_zero_iff_lt.mp h0
theorem ar21 {x0 x1 x2 x3 : Nat} (h0 : ((x0 + x1) = x2)) (h1 : (1 ≤ x0)) (h2 : (x3 ≤ x0)) : ((((0 + x3) + (x0 - x3)) - 1) < x2) := by lia
theorem ar22 {x0 : Nat} (h0 : (1 ≤ x0)) : ((x0 - 1) < x0) := by exact Nat.sub_one_lt_of_lt h0
theorem ar23 {x0 x1 x2 : Nat} (h0 : ((x0 + x1) = x2)) : ((x0 + x1) ≤ x2) := by exact Nat.le_of_eq h0
theorem ar24 {x0 x1 : Nat} (h0 : (1 ≤ x0)) (h1 : (x1 ≤ x0)) : ((((0 + x1) + (x0 - x1)) - 1) = (x0 - 1)) := by lia
theorem ar25 {x0 x1 x2 : Nat} (h0 : ((x0 + x1) = x2)) (h1 : (1 ≤ x0)) : ((x0 - 1) < x2) := by omega
theorem ar26 {x0 x1 x2 x3 : Nat} (h0 : ((x0 + x1) = x2)) (h1 : (x3 < x1)) : ((x0 + x3) < x2) := by lia
theorem ar27 {x0 x1 : Nat} (h0 : (1 ≤ x0)) : ((x0 - 1) ≠ (x0 + x1)) := by omega
theorem ar28 {x0 x1 : Nat} (h0 : (1 ≤ x0)) (h1 : (x1 < x0)) : (x1 ≤ (x0 - 1)) := by exact (Nat.le_sub_one_iff_lt h0).mpr h1
theorem ar29 {x0 : Nat} (h0 : (x0 = 0)) : (x0 ≤ 0) := by exact Nat.le_zero.mpr h0
theorem ar30 {x0 x1 : Nat} (h0 : (x0 < x1)) (h1 : (x1 < x0)) : False := by omega
theorem ar31 {x0 x1 : Nat} (h0 : (x0 ≤ x1)) : (x0 ≤ x1) := by omega
theorem ar32 {x0 x1 : Nat} : (x0 ≤ (x0 + x1)) := by exact Nat.le_add_right x0 x1
theorem ar33 {x0 x1 x2 x3 : Nat} (h0 : ((x0 + x1) = x2)) (h1 : (x3 ≤ x1)) : ((x0 + x3) ≤ x2) := by lia
theorem ar34 {x0 x1 x2 : Nat} (h0 : (x0 < x1)) (h1 : (x1 ≤ x2)) : (x0 < x2) := by exact Nat.lt_of_lt_of_le h0 h1
theorem ar35 {x0 x1 x2 x3 : Nat} (h0 : ((x0 + x1) = x2)) (h1 : (x3 ≤ x0)) : (x3 ≤ x2) := by lia
theorem ar36 {x0 x1 x2 : Nat} (h0 : ((x0 + x1) = x2)) : (x0 ≤ x2) := by exact Nat.le.intro h0
theorem ar37 {x0 x1 x2 x3 : Nat} (h0 : (x0 < (x1 + x2))) (h1 : (x2 ≤ x3)) : (x0 < (x1 + x3)) := by lia
theorem ar38 {x0 x1 x2 x3 : Nat} (h0 : ((x0 + x1) ≤ x2)) (h1 : (x1 ≤ x3)) : (x0 ≤ x2) := by exact Nat.le_of_add_right_le h0
theorem ar39 {x0 x1 x2 : Nat} (h0 : (x0 < (min x1 x2))) : (x0 < x1) := by lia
theorem ar40 {x0 x1 x2 x3 x4 x5 : Nat} (h0 : ((x0 + x1) = x2)) (h1 : (x3 < (min x4 x5))) (h2 : (x4 ≤ x0)) : (x3 < x2) := by lia
theorem ar41 {x0 x1 x2 x3 x4 x5 : Nat} (h0 : (1 ≤ x0)) (h1 : (x1 < ((min x0 x2) - x3))) (h2 : (x4 ≤ x5)) : ((x3 + x1) < x2) := by omega
theorem ar42 {x0 x1 x2 x3 : Nat} (h0 : (x0 < ((min x1 x2) - x3))) : ((x3 + x0) < x1) := by omega
theorem ar43 {x0 x1 : Nat} : (0 ≤ (x0 + x1)) := by exact Nat.le_add_left 0 (x0.add x1)
theorem ar44 {x0 x1 x2 x3 : Nat} (h0 : ((((0 + x0) + (x1 - x0)) - 1) = (x1 - 1))) (h1 : ((x0 + x2) ≥ (x1 - 1))) (h2 : (1 ≤ x1)) (h3 : (x2 < ((min x1 x3) - x0))) : ((x0 + x2) = (x1 - 1)) := by omega
theorem ar45 {x0 x1 x2 x3 x4 : Nat} (h0 : (x0 < ((min (x1 + x2) x3) - x1))) (h1 : (x2 ≤ x4)) : ((x1 + x0) < x3) := by omega
theorem ar46 {x0 x1 x2 x3 x4 : Nat} (h0 : (x0 < ((min (x1 + x2) x3) - x1))) (h1 : (x2 ≤ x4)) : (x0 < x2) := by omega
theorem ar47 {x0 x1 : Nat} (h0 : (x0 > 0)) : (x1 < (x1 + x0)) := by exact Nat.lt_add_of_pos_right h0
theorem ar48 {x0 x1 x2 x3 x4 : Nat} (h0 : ((x0 + x1) = x2)) (h1 : (x3 < ((min (x0 + x4) x2) - x0))) (h2 : (x4 ≤ x1)) : ((x0 + x3) < (x0 + x1)) := by lia
theorem ar49 {x0 x1 x2 x3 x4 : Nat} (h0 : ((x0 + x1) = x2)) (h1 : (x3 < (x2 - (x0 + x4)))) : ((x4 + x3) < x1) := by omega
theorem ar50 {x0 x1 x2 x3 : Nat} (h0 : (x0 < (x1 - (x2 + x3)))) : ((x2 + (x3 + x0)) < x1) := by omega
theorem ar51 {x0 x1 x2 x3 x4 : Nat} (h0 : ((x0 + x1) = x2)) (h1 : (x3 ≤ x1)) (h2 : (x4 ≤ x0)) : ((((min x0 x2) - x4) + ((min (x0 + x3) x2) - x0)) = ((x0 - x4) + x3)) := by lia
theorem ar52 {x0 x1 x2 x3 x4 : Nat} (h0 : ((x0 + x1) = x2)) (h1 : (x3 ≤ x1)) (h2 : (x4 ≤ x0)) : (((x4 + 0) + ((x0 - x4) + x3)) ≤ x2) := by lia
theorem ar53 {x0 x1 x2 x3 : Nat} (h0 : (x0 ≤ x1)) (h1 : (x2 ≤ x3)) : ((x2 + ((x3 - x2) + x0)) = (x3 + x0)) := by lia
theorem ar54 {x0 x1 x2 x3 : Nat} (h0 : (x0 < x1)) (h1 : (x1 < x2)) (h2 : (x3 < x0)) : (x3 < x2) := by lia
theorem ar55 {x0 x1 x2 x3 : Nat} (h0 : ((x0 + x1) = x2)) (h1 : (x3 ≤ x0)) : (((min x0 x2) - x3) = (x0 - x3)) := by lia
theorem ar56 {x0 x1 x2 x3 : Nat} (h0 : ((x0 + x1) = x2)) (h1 : (x3 ≤ x1)) : (((min (x0 + x3) x2) - x0) = x3) := by omega
theorem ar57 {x0 x1 x2 : Nat} (h0 : (x0 < (x1 - x2))) : ((x2 + x0) < x1) := by exact Nat.add_lt_of_lt_sub' h0
theorem ar58 {x0 x1 x2 : Nat} (h0 : (x0 < x1)) : ((x2 + x0) < (x2 + x1)) := by lia
theorem ar59 {x0 x1 : Nat} (h0 : (x0 < x1)) : (0 < (x1 - x0)) := by exact Nat.zero_lt_sub_of_lt h0
theorem ar60 {x0 : Nat} (h0 : (x0 ≠ 0)) : (0 < x0) := by lia
theorem ar61 {x0 x1 : Nat} (h0 : (x0 < x1)) : (x0 < x1) := by omega
theorem ar62 {x0 x1 : Nat} (h0 : (x0 < x1)) : (((x1 - x0) - 1) < (x1 - x0)) := by omega
theorem ar63 {x0 : Nat} (h0 : (x0 ≠ 0)) : ((x0 - 1) < x0) := by exact Nat.sub_one_lt h0
theorem ar64 {x0 x1 : Nat} (h0 : ((((0 + x0) + (x1 - x0)) - 1) = (x1 - 1))) (h1 : (1 ≤ x1)) (h2 : (x0 < x1)) : ((x0 + ((x1 - x0) - 1)) = (x1 - 1)) := by omega
theorem ar65 {x0 x1 x2 x3 x4 : Nat} (h0 : ((x0 + x1) = x2)) (h1 : (x3 < (x0 - x4))) : ((x4 + x3) < x2) := by omega
theorem ar66 {x0 x1 x2 x3 x4 : Nat} (h0 : ((x0 + x1) = x2)) (h1 : (x3 < x4)) (h2 : (x4 ≤ x1)) : ((x0 + x3) < x2) := by lia
theorem ar67 {x0 x1 x2 x3 : Nat} (h0 : (1 ≤ x0)) (h1 : (x1 < (x0 - x2))) : ((x2 + x1) ≠ (x0 + x3)) := by omega
theorem ar68 {x0 x1 x2 : Nat} (h0 : (x0 < x1)) (h1 : (x2 = (x1 - x0))) : (1 ≤ x2) := by lia
theorem ar69 {x0 x1 : Nat} (h0 : (x0 = x1)) (h1 : (x1 ≠ 0)) : (1 ≤ x0) := by lia
theorem ar70 {x0 x1 x2 x3 : Nat} (h0 : (x0 = (x1 - x2))) (h1 : (¬ ((x1 - x2) ≤ x3))) : (1 ≤ x0) := by lia
theorem ar71 {x0 x1 x2 x3 x4 : Nat} (h0 : ((x0 + x1) ≤ x2)) (h1 : (x3 < x1)) (h2 : (x4 = x2)) : ((x0 + x3) < x4) := by lia
theorem ar72 {x0 x1 x2 x3 x4 : Nat} (h0 : ((x0 + x1) ≤ x2)) (h1 : (1 ≤ x1)) (h2 : (x3 < x1)) (h3 : (x4 = x2)) : (((x0 + x3) - 1) < x4) := by omega
theorem ar73 {x0 x1 : Nat} (h0 : (x0 < x1)) : (x0 ≤ x1) := by exact Nat.le_of_succ_le h0
theorem ar74 {x0 x1 x2 : Nat} (h0 : (1 ≤ x0)) (h1 : (x0 ≤ x1)) : ((x2 + x1) ≠ ((x2 + x1) - 1)) := by omega
theorem ar75 {x0 x1 x2 : Nat} (h0 : (x0 < (x1 + (x2 + 1)))) (h1 : (x0 ≥ (x1 + x2))) : (x0 = (x1 + x2)) := by exact Nat.eq_of_le_of_lt_succ h1 h0
theorem ar76 {x0 x1 x2 : Nat} (h0 : (x0 < x1)) (h1 : (¬ (x2 < x1))) : (x0 < x2) := by lia
theorem ar77 {x0 x1 x2 x3 x4 x5 : Nat} (h0 : ((x0 + x1) ≤ x2)) (h1 : (x3 < (x0 + x4))) (h2 : (x0 ≤ x3)) (h3 : (x5 ≤ x4)) (h4 : (x3 ≥ ((x0 + x4) - 1))) : (x3 = ((x0 + x4) - 1)) := by lia
theorem ar78 {x0 x1 : Nat} (h0 : (x0 ≠ x1)) (h1 : (¬ (x0 < x1))) : (x1 < x0) := by lia
theorem ar79 {x0 x1 : Nat} (h0 : (x0 ≤ x1)) : ((max x0 x1) = x1) := by exact Nat.max_eq_right h0
theorem ar80 {x0 x1 x2 x3 x4 : Nat} (h0 : (x0 < (x1 + 1))) (h1 : (x2 < x0)) (h2 : (x1 ≤ x2)) : (x3 < x4) := by lia
theorem ar81 {x0 x1 x2 : Nat} (h0 : ((x0 + x1) ≤ x2)) (h1 : (1 ≤ x1)) : (x0 < x2) := by lia
theorem ar82 {x0 x1 x2 x3 : Nat} (h0 : ((x0 + x1) ≤ x2)) (h1 : (1 ≤ x1)) (h2 : (x3 ≤ x1)) : (((x0 + x3) - 1) < x2) := by omega
theorem ar83 {x0 x1 : Nat} (h0 : (x0 > 1)) : (x1 < ((x1 + x0) - 1)) := by omega
theorem ar84 {x0 x1 : Nat} (h0 : (1 ≤ x0)) : (((x1 + x0) - 1) < (x1 + x0)) := by omega
theorem ar85 {x0 : Nat} (h0 : (1 ≤ x0)) (h1 : (¬ (x0 > 1))) : (x0 = 1) := by lia
theorem ar86 {x0 : Nat} (h0 : (1 ≠ x0)) (h1 : (1 ≤ x0)) : (2 ≤ x0) := by lia
theorem ar87 {x0 x1 x2 x3 : Nat} (h0 : ((x0 + x1) ≤ x2)) (h1 : (x3 < x1)) : ((x0 + x3) < x2) := by lia
theorem ar88 {x0 x1 x2 x3 : Nat} (h0 : ((x0 + x1) ≤ x2)) (h1 : (1 ≤ x1)) (h2 : (x3 < x1)) : (((x0 + x3) - 1) < x2) := by omega
theorem ar89 {x0 x1 x2 : Nat} (h0 : (x0 < x1)) (h1 : (x2 < x0)) : (x2 < x1) := by exact Nat.lt_trans h1 h0
theorem ar90 {x0 : Nat} : (2 ≤ (max 2 x0)) := by exact Nat.le_max_left 2 x0
theorem ar91 {x0 : Nat} (h0 : (2 ≤ x0)) : ((max 2 x0) ≤ x0) := by lia
theorem ar92 {x0 x1 x2 : Nat} (h0 : (x0 < (x1 + (1 + 1)))) (h1 : (x2 < x0)) (h2 : (x1 ≤ x2)) : (x2 = x1) := by lia
theorem ar93 {x0 x1 x2 : Nat} (h0 : (x0 < (x1 + (1 + 1)))) (h1 : (x2 < x0)) (h2 : (x1 ≤ x2)) : (x0 = (x1 + 1)) := by lia
theorem ar94 {x0 x1 x2 x3 : Nat} (h0 : ((x0 + x1) ≤ x2)) (h1 : (x3 ≤ x1)) : ((x0 + x3) ≤ x2) := by lia
theorem ar95 {x0 x1 x2 x3 : Nat} (h0 : (2 ≤ x0)) (h1 : (x1 < (x2 + x0))) (h2 : (x3 < x1)) : (x3 < (x2 + x0)) := by exact Nat.lt_trans h2 h1
theorem ar96 {x0 x1 x2 : Nat} (h0 : (x0 < x1)) (h1 : (x2 ≤ x0)) : (x2 ≤ x1) := by lia
theorem ar97 {x0 x1 x2 : Nat} (h0 : (x0 < (x1 + x2))) : (x1 ≤ (((x1 + (x1 + x2)) - 1) - x0)) := by omega
theorem ar98 {x0 x1 x2 x3 : Nat} (h0 : (x0 < (x1 + x2))) (h1 : (x3 < x0)) : ((((x1 + (x1 + x2)) - 1) - x0) < (((x1 + (x1 + x2)) - 1) - x3)) := by omega
theorem ar99 {x0 x1 x2 : Nat} (h0 : (2 ≤ x0)) (h1 : (x1 ≤ x2)) : ((((x1 + (x1 + x0)) - 1) - x2) < (x1 + x0)) := by omega
theorem ar100 {x0 : Nat} (h0 : (2 ≤ x0)) : (1 ≤ x0) := by exact Nat.one_le_of_lt h0
theorem ar101 {x0 x1 : Nat} (h0 : (2 ≤ x0)) (h1 : (x0 ≤ x1)) : (1 ≤ x1) := by lia
theorem ar102 {x0 x1 x2 : Nat} (h0 : (x0 < x1)) : (¬ ((x1 ≤ x0) ∧ (x0 < (x1 + x2)))) := by lia
theorem ar103 {x0 x1 x2 x3 : Nat} (h0 : ((x0 + x1) ≤ x2)) (h1 : (x3 ≤ x1)) : (¬ ((x0 ≤ x2) ∧ (x2 < (x0 + x3)))) := by lia
theorem ar104 {x0 x1 x2 : Nat} (h0 : ((x0 + x1) ≤ x2)) : (((x0 + 1) - 1) = x0) := by exact Nat.add_sub_self_right x0 1
theorem ar105 {x0 : Nat} (h0 : (1 ≤ x0)) : ((max x0 1) = x0) := by exact Nat.max_eq_left h0
theorem ar106 {x0 : Nat} : ((x0 + 0) ≤ (0 + x0)) := by exact Nat.le_add_left (x0 + 0) 0
theorem ar107 {x0 x1 x2 x3 : Nat} (h0 : (x0 < x1)) (h1 : (x1 ≤ x0)) : (x2 < x3) := by lia
theorem ar108 {x0 x1 : Nat} (h0 : (x0 ≤ x1)) (h1 : (x0 ≥ x1)) : (x0 = x1) := by exact Nat.le_antisymm h0 h1
theorem ar109 {x0 x1 x2 x3 x4 x5 x6 : Nat} (h0 : ((x0 + x1) ≤ x2)) (h1 : (x3 < x1)) (h2 : (x4 = x2)) (h3 : (x5 ≤ x3)) (h4 : (x6 ≤ x5)) : ((x0 + ((x6 + x5) / 2)) < x4) := by lia
theorem ar110 {x0 x1 x2 x3 : Nat} (h0 : (x0 ≤ x1)) (h1 : (¬ (x2 ≥ x0))) : ((x3 + x1) ≠ (x3 + ((x2 + x0) / 2))) := by lia
theorem ar111 {x0 x1 : Nat} (h0 : (x0 ≤ x1)) : (x0 ≤ ((x0 + x1) / 2)) := by lia
theorem ar112 {x0 x1 x2 : Nat} (h0 : (x0 ≤ x1)) (h1 : (x2 ≤ x0)) : (((x2 + x0) / 2) ≤ x1) := by lia
theorem ar113 {x0 x1 x2 x3 : Nat} (h0 : ((x0 + x1) ≤ (x2 + x3))) (h1 : (x1 < x3)) : ((((x2 + x0) / 2) + (x1 + 1)) ≤ (x2 + x3)) := by lia
theorem ar114 {x0 x1 x2 x3 x4 : Nat} (h0 : (x0 < x1)) : (x2 ≤ (x2 + ((x3 + x4) / 2))) := by exact Nat.le_add_right x2 ((x3 + x4) / 2)
theorem ar115 {x0 x1 x2 x3 : Nat} (h0 : (((x0 + x1) / 2) < x2)) : ((x3 + ((x0 + x1) / 2)) < (x3 + x2)) := by exact Nat.add_lt_add_left h0 x3
theorem ar116 {x0 x1 x2 : Nat} (h0 : (((x0 + x1) / 2) ≤ x2)) (h1 : (((x0 + x1) / 2) ≥ x2)) : (x2 = ((x0 + x1) / 2)) := by lia
theorem ar117 {x0 x1 : Nat} (h0 : (¬ (x0 ≥ x1))) : ((((x0 + x1) / 2) + 1) ≤ x1) := by lia
theorem ar118 {x0 x1 x2 x3 : Nat} (h0 : ((x0 + x1) ≤ (x2 + x3))) (h1 : (x1 < x3)) : ((x0 + (x1 + 1)) ≤ ((((x2 + x0) / 2) + 1) + x3)) := by lia
theorem ar119 {x0 x1 x2 x3 : Nat} (h0 : (x0 < ((x1 + x2) / 2))) : ((x3 + x0) < (x3 + ((x1 + x2) / 2))) := by exact Nat.add_lt_add_left h0 x3
theorem ar120 {x0 x1 x2 x3 : Nat} (h0 : (x0 ≤ x1)) (h1 : (¬ (x2 ≥ x0))) : ((x3 + ((x2 + x0) / 2)) < (x3 + x1)) := by lia
theorem ar121 {x0 x1 x2 : Nat} (h0 : (x0 < (((x1 + x2) / 2) + 1))) (h1 : (x0 ≥ ((x1 + x2) / 2))) : (x0 = ((x1 + x2) / 2)) := by exact Nat.eq_of_le_of_lt_succ h1 h0
theorem ar122 {x0 x1 x2 : Nat} (h0 : ((x0 + (max 0 x1)) ≤ (x2 + x1))) (h1 : (x2 ≤ x0)) : (x2 = x0) := by lia
theorem ar123 {x0 x1 x2 : Nat} (h0 : (x0 ≤ x1)) : (((x2 + x1) - (x2 + x0)) ≤ (x2 + x1)) := by exact Nat.sub_le (x2 + x1) (x2 + x0)
theorem ar124 {x0 x1 x2 x3 x4 : Nat} (h0 : ((x0 + x1) ≤ x2)) (h1 : (x3 ≤ x4)) : (((x0 + x4) - ((x0 + x4) - (x0 + x3))) = (x0 + x3)) := by lia
theorem ar125 {x0 x1 x2 x3 : Nat} (h0 : (x0 < x1)) (h1 : (x0 = (x2 + x3))) : (¬ (x1 = (x2 + x3))) := by lia
theorem ar126 {x0 x1 x2 x3 x4 : Nat} (h0 : (x0 < (x1 + (x2 + 1)))) (h1 : (x3 < x0)) (h2 : (x3 = (x1 + x4))) (h3 : (x4 ≤ x2)) (h4 : (x1 ≤ x3)) : (((x1 + x4) < x0) ∧ (x0 ≤ (x1 + x2))) := by lia
theorem ar127 {x0 x1 x2 x3 : Nat} (h0 : (x0 < x1)) (h1 : (x0 = (x2 + x3))) (h2 : (x2 ≤ x0)) : (x3 ≤ ((x1 - 1) - x2)) := by omega
theorem ar128 {x0 x1 x2 x3 x4 : Nat} (h0 : (x0 < (x1 + (x2 + 1)))) (h1 : (x3 < x0)) (h2 : (x4 ≤ x2)) (h3 : (x1 ≤ x3)) : (((x0 - 1) - x1) < x2) := by omega
theorem ar129 {x0 x1 x2 : Nat} (h0 : (x0 < x1)) (h1 : (x2 ≤ x0)) : ((x2 + ((x1 - 1) - x2)) = (x1 - 1)) := by lia
theorem ar130 {x0 x1 x2 x3 x4 : Nat} (h0 : (((x0 + x1) < x2) ∧ (x2 ≤ (x0 + x3)))) (h1 : (x2 < x4)) (h2 : (x1 ≤ x3)) : (¬ (x4 = (x0 + x1))) := by lia
theorem ar131 {x0 x1 x2 x3 x4 : Nat} (h0 : (((x0 + x1) < x2) ∧ (x2 ≤ (x0 + x3)))) (h1 : (x4 < (x0 + (x3 + 1)))) (h2 : (x2 < x4)) (h3 : (x1 ≤ x3)) : (((x0 + x1) < x4) ∧ (x4 ≤ (x0 + x3))) := by lia
theorem ar132 {x0 x1 x2 x3 : Nat} (h0 : (((x0 + x1) < x2) ∧ (x2 ≤ (x0 + x3)))) : (x0 ≤ (x2 - 1)) := by lia
theorem ar133 {x0 x1 x2 x3 x4 : Nat} (h0 : (((x0 + x1) < x2) ∧ (x2 ≤ (x0 + x3)))) (h1 : (x2 < x4)) : ((x2 - 1) < (x4 - 1)) := by lia
theorem ar134 {x0 x1 x2 x3 : Nat} (h0 : (x0 < (x1 + (x2 + 1)))) (h1 : (x3 < x0)) : ((x0 - 1) < (x1 + x2)) := by lia
theorem ar135 {x0 x1 x2 x3 : Nat} (h0 : (x0 < x1)) (h1 : (x1 = (x2 + x3))) (h2 : (x2 ≤ x0)) : ((x0 - x2) < x3) := by omega
theorem ar136 {x0 x1 : Nat} (h0 : (x0 ≤ x1)) : ((x0 + (x1 - x0)) = x1) := by exact Nat.add_sub_of_le h0
theorem ar137 {x0 x1 x2 x3 x4 : Nat} (h0 : (((x0 + x1) < x2) ∧ (x2 ≤ (x0 + x3)))) (h1 : (x4 < x2)) (h2 : (¬ (((x0 + x1) < x4) ∧ (x4 ≤ (x0 + x3))))) (h3 : (¬ (x4 = (x0 + x1)))) : (x4 < (x2 - 1)) := by lia
theorem ar138 {x0 x1 x2 x3 : Nat} (h0 : (x0 < (x1 + (x2 + 1)))) (h1 : (x3 ≤ x2)) (h2 : (¬ (((x1 + x3) < x0) ∧ (x0 ≤ (x1 + x2))))) (h3 : (¬ (x0 = (x1 + x3)))) : (x0 < (x1 + x2)) := by lia
theorem ar139 {x0 x1 x2 : Nat} (h0 : (x0 < x1)) : (¬ (x0 = (x1 + x2))) := by lia
theorem ar140 {x0 x1 x2 x3 : Nat} (h0 : (x0 < x1)) (h1 : (x2 ≤ x3)) : (¬ (((x1 + x2) < x0) ∧ (x0 ≤ (x1 + x3)))) := by lia
theorem ar141 {x0 x1 x2 x3 : Nat} (h0 : ((x0 + (x1 + 1)) ≤ x2)) (h1 : (x3 ≤ x1)) : (¬ (x2 = (x0 + x3))) := by lia
theorem ar142 {x0 x1 x2 x3 : Nat} (h0 : ((x0 + (x1 + 1)) ≤ x2)) : (¬ (((x0 + x3) < x2) ∧ (x2 ≤ (x0 + x1)))) := by lia
theorem ar143 {x0 x1 x2 : Nat} (h0 : ((x0 + (x1 + 1)) ≤ x2)) : ((x0 + x1) ≤ x2) := by exact Nat.le_of_succ_le h0
theorem ar144 {x0 x1 x2 : Nat} (h0 : (x0 < x1)) (h1 : (¬ (x2 < x1))) : (¬ (x2 < x0)) := by lia
theorem ar145 {x0 x1 x2 : Nat} (h0 : (x0 ≤ x1)) : ((x0 + 0) ≤ (x2 + x1)) := by exact Nat.le_add_left_of_le h0
theorem ar146 {x0 x1 x2 x3 x4 : Nat} (h0 : ((x0 + x1) ≤ x2)) (h1 : (x3 ≤ x1)) (h2 : (¬ (x4 ≥ x3))) : ((x0 + (x4 + ((x3 - x4) / 2))) < x2) := by lia
theorem ar147 {x0 x1 : Nat} : (x0 ≤ (x0 + ((x1 - x0) / 2))) := by exact Nat.le_add_right x0 ((x1 - x0) / 2)
theorem ar148 {x0 x1 x2 : Nat} (h0 : (x0 ≤ x1)) (h1 : (x2 ≤ x0)) : ((x2 + ((x0 - x2) / 2)) ≤ x1) := by lia
theorem ar149 {x0 x1 x2 x3 : Nat} (h0 : ((x0 + x1) ≤ (x2 + x3))) (h1 : (¬ (x2 ≥ x0))) : (((x2 + ((x0 - x2) / 2)) + (x1 + 1)) ≤ (x2 + x3)) := by lia
theorem ar150 {x0 x1 : Nat} (h0 : (¬ (x0 ≥ x1))) : (((x0 + ((x1 - x0) / 2)) + 1) ≤ x1) := by lia
theorem ar151 {x0 x1 x2 x3 : Nat} (h0 : ((x0 + x1) ≤ (x2 + x3))) : ((x0 + (x1 + 1)) ≤ (((x2 + ((x0 - x2) / 2)) + 1) + x3)) := by lia
theorem ar152 {x0 x1 x2 : Nat} (h0 : (x0 < ((x1 + ((x2 - x1) / 2)) + 1))) : (x0 ≤ (x1 + ((x2 - x1) / 2))) := by exact Nat.le_of_lt_succ h0
theorem ar153 {x0 x1 x2 : Nat} (h0 : (x0 ≤ x1)) (h1 : (¬ (x2 ≥ x0))) : ((x2 + ((x0 - x2) / 2)) < x1) := by lia
theorem ar154 : (0 < 1) := by exact Nat.one_pos
theorem ar155 {x0 x1 x2 x3 x4 : Nat} (h0 : ((x0 + x1) ≤ x2)) (h1 : (x3 < x1)) : ((x0 + (x3 - x4)) < x2) := by omega
theorem ar156 {x0 x1 : Nat} (h0 : ((x0 + 1) ≤ x1)) : (((x0 + 1) + 1) ≤ ((2 * x1) + 1)) := by lia
theorem ar157 {x0 : Nat} : (x0 < ((2 * x0) + 1)) := by lia
theorem ar158 {x0 x1 : Nat} (h0 : (¬ (x0 ≥ (x1 + 1)))) : (x0 ≤ x1) := by exact Nat.le_of_not_lt h0
theorem ar159 {x0 x1 x2 : Nat} (h0 : (((max 0 x0) + 1) ≤ x1)) (h1 : (x2 < x0)) : ((x2 + 1) ≤ x1) := by lia
theorem ar160 {x0 x1 x2 : Nat} (h0 : (x0 < x1)) (h1 : (x0 ≤ x2)) : (((x2 + 1) - (min x1 (x2 + 1))) ≤ (x2 - x0)) := by omega
theorem ar161 {x0 x1 x2 : Nat} (h0 : (x0 < x1)) : ((x0 - x2) ≤ x1) := by omega
theorem ar162 {x0 x1 x2 x3 : Nat} (h0 : (x0 < ((x1 + 1) - (min x2 (x1 + 1))))) (h1 : (x1 < x3)) : (x0 ≤ (x1 - x2)) := by omega
theorem ar163 {x0 x1 x2 : Nat} (h0 : (x0 < x1)) : ((x0 - x2) < x1) := by exact Nat.sub_lt_of_lt h0
theorem ar164 {x0 x1 : Nat} (h0 : (x0 < x1)) : ((x0 + 0) < x1) := by omega
theorem ar165 {x0 x1 x2 x3 x4 : Nat} (h0 : ((x0 + x1) ≤ x2)) (h1 : (¬ (x3 ≥ (x1 - x4)))) : ((x0 + (x4 + x3)) < x2) := by omega
theorem ar166 {x0 x1 x2 : Nat} (h0 : (¬ (x0 ≥ (x1 - x2)))) : ((x2 + x0) < x1) := by omega
theorem ar167 {x0 x1 x2 : Nat} (h0 : (((max 0 x0) + 1) ≤ x1)) : ((x0 - x2) ≤ x1) := by lia
theorem ar168 {x0 x1 x2 x3 : Nat} (h0 : ((x0 + x1) < x2)) (h1 : (x1 < x3)) : (((x0 + x1) + 1) ≤ (x0 + (min x3 (x2 - x0)))) := by lia
theorem ar169 {x0 x1 x2 x3 : Nat} (h0 : (x0 < x1)) (h1 : (x2 < x3)) : ((x2 + (min x1 (x3 - x2))) ≤ x3) := by lia
theorem ar170 {x0 x1 x2 : Nat} (h0 : (x0 < ((x1 + x2) + 1))) : (x0 ≤ (x1 + x2)) := by exact Nat.le_of_lt_succ h0
theorem ar171 {x0 x1 x2 : Nat} (h0 : ((x0 + x1) < x2)) : ((x0 + x1) < x2) := by omega
theorem ar172 {x0 x1 x2 x3 : Nat} (h0 : ((x0 + (min x1 (x2 - x0))) ≤ x3)) (h1 : (x3 < x2)) : ((x0 + x1) ≤ x3) := by lia
theorem ar173 {x0 : Nat} (h0 : (2 ≤ x0)) : (x0 = ((x0 - 1) + 1)) := by lia
theorem ar174 {x0 : Nat} (h0 : (2 ≤ x0)) : (¬ (0 ≥ x0)) := by lia
theorem ar175 {x0 : Nat} (h0 : (2 ≤ x0)) : (1 ≤ (x0 - 0)) := by exact Nat.one_le_of_lt h0
theorem ar176 {x0 x1 : Nat} (h0 : (x0 = x1)) : ((0 + (x1 - 0)) ≤ x0) := by lia
theorem ar177 {x0 x1 : Nat} (h0 : (x0 < x1)) (h1 : (x0 ≤ (x1 - 0))) : (x0 ≤ (min (x1 - 0) x1)) := by exact Nat.le_min_of_le_of_le h1 h1
theorem ar178 {x0 x1 : Nat} (h0 : (x0 = x1)) : ((0 + (min (x1 - 0) x1)) ≤ x0) := by lia
theorem ar179 {x0 : Nat} (h0 : (2 ≤ x0)) : ((min (x0 - 0) x0) = x0) := by exact Nat.min_self (x0 - 0)
theorem ar180 : (1 ≤ (0 + 1)) := by exact Nat.le_add_left 1 0
theorem ar181 {x0 x1 : Nat} (h0 : (x0 ≤ (x1 - 0))) (h1 : (¬ (x0 < x1))) : (x0 = x1) := by lia
theorem ar182 {x0 : Nat} (h0 : ((max 0 x0) = 0)) (h1 : (2 ≤ x0)) : False := by omega
theorem ar183 : (¬ (0 ≥ 64)) := by exact Nat.not_add_one_le_zero 63
theorem ar184 : (1 ≤ (64 - 0)) := by exact Nat.le_of_ble_eq_true rfl
theorem ar185 {x0 : Nat} (h0 : (x0 = 64)) : ((0 + (64 - 0)) ≤ x0) := by exact Nat.le_of_eq (id (Eq.symm h0))
theorem ar186 {x0 : Nat} (h0 : (x0 < 32)) : (x0 ≤ 32) := by exact Nat.le_of_succ_le h0
theorem ar187 {x0 x1 : Nat} (h0 : (x0 = 64)) (h1 : (x1 = x0)) : ((0 + 32) ≤ x1) := by lia
theorem ar188 : (32 ≤ 32) := by exact Nat.le_of_ble_eq_true rfl
theorem ar189 : (32 ≤ 64) := by exact Nat.le_of_ble_eq_true rfl
theorem ar190 {x0 : Nat} (h0 : (¬ (x0 < 32))) : (32 ≤ x0) := by lia
theorem ar191 {x0 : Nat} (h0 : (x0 ≤ (64 - 0))) : (x0 ≤ 64) := by omega
theorem ar192 {x0 : Nat} (h0 : (x0 ≤ 64)) (h1 : (x0 ≥ 64)) : (x0 = 64) := by exact Nat.le_antisymm h0 h1
theorem ar193 {x0 : Nat} (h0 : (¬ (x0 ≥ 64))) : (1 ≤ (64 - x0)) := by omega
theorem ar194 {x0 x1 : Nat} (h0 : (x0 = 64)) (h1 : (x1 ≤ 64)) : ((x1 + (64 - x1)) ≤ x0) := by lia
theorem ar195 {x0 x1 : Nat} (h0 : (32 ≤ x0)) (h1 : (x1 ≤ (64 - x0))) : ((min (64 - x0) 32) = (64 - x0)) := by lia
theorem ar196 {x0 x1 : Nat} (h0 : (x0 ≤ (64 - x1))) : (x0 ≤ (64 - x1)) := by omega
theorem ar197 : (¬ (1 > 1)) := by exact Nat.lt_irrefl 1
theorem ar198 {x0 : Nat} (h0 : (1 ≤ x0)) : (2 ≤ (x0 + 1)) := by exact Nat.le_add_of_sub_le h0
theorem ar199 {x0 : Nat} (h0 : (x0 ≤ 64)) : ((x0 + (64 - x0)) = 64) := by exact Nat.add_sub_of_le h0
theorem ar200 {x0 : Nat} (h0 : (32 ≤ x0)) : (1 ≤ x0) := by exact Nat.one_le_of_lt h0
theorem ar201 {x0 x1 : Nat} (h0 : (1 ≤ x0)) (h1 : (x0 ≤ (64 - x1))) : (1 ≤ (64 - x1)) := by exact Nat.le_trans h0 h1
theorem ar202 {x0 x1 : Nat} (h0 : (1 ≤ x0)) (h1 : (32 ≤ x1)) (h2 : (x0 ≤ (64 - x1))) (h3 : (¬ (x0 < 32))) : (x0 = (64 - x1)) := by omega
theorem ar203 {x0 : Nat} (h0 : (1 ≤ (64 - x0))) : (1 ≤ (64 - x0)) := by omega
theorem ar204 (h0 : ((max 0 64) = 0)) : False := by omega
theorem ar205 {x0 : Nat} (h0 : (((max 0 64) = 1) ∨ (x0 = 64))) : (x0 = 64) := by lia
theorem ar206 : (¬ (2 ≤ 1)) := by exact Nat.not_succ_le_self 1
theorem ar207 : (¬ (0 > 0)) := by exact Nat.not_lt_zero 0
theorem ar208 {x0 x1 x2 x3 : Nat} (h0 : ((x0 + x1) = 64)) (h1 : (x2 = 64)) (h2 : (x3 = x2)) : ((x0 + x1) = x3) := by lia
theorem ar209 {x0 x1 : Nat} (h0 : (((x0 + 1) + 1) ≠ x1)) (h1 : ((x0 + 1) < x1)) : (((x0 + 1) + 1) < x1) := by exact Nat.lt_of_le_of_ne h1 h0
theorem ar210 {x0 x1 x2 : Nat} (h0 : (x0 ≤ (x1 + x2))) : (x0 ≤ ((x1 + 1) + x2)) := by lia
theorem ar211 {x0 x1 x2 : Nat} (h0 : (x0 ≤ ((x1 + x2) + 1))) : (x0 ≤ ((x1 + 1) + x2)) := by lia
theorem ar212 {x0 x1 : Nat} (h0 : ((x0 + 1) ≠ x1)) (h1 : (x0 < x1)) : ((x0 + 1) < x1) := by exact Nat.lt_of_le_of_ne h1 h0
theorem ar213 {x0 x1 : Nat} (h0 : ((x0 + 1) < x1)) : (0 < (x1 - (x0 + 1))) := by exact Nat.zero_lt_sub_of_lt h0
theorem ar214 {x0 x1 : Nat} (h0 : (x0 < x1)) : (((x0 + 1) + (x1 - (x0 + 1))) ≤ x1) := by omega
theorem ar215 {x0 x1 x2 : Nat} (h0 : (x0 < ((x1 + 1) + (x2 - (x1 + 1))))) (h1 : (x1 < x2)) : (x0 < x2) := by omega
theorem ar216 {x0 x1 x2 : Nat} (h0 : (x0 < x1)) (h1 : (x2 ≤ (x1 - (x0 + 1)))) : (((x0 + 1) + x2) ≤ x1) := by exact (Nat.le_sub_iff_add_le' h0).mp h1
theorem ar217 {x0 x1 x2 : Nat} (h0 : (((x0 + 1) + x1) < x2)) : (x1 < (x2 - (x0 + 1))) := by exact Nat.lt_sub_iff_add_lt'.mpr h0
theorem ar218 {x0 x1 x2 : Nat} (h0 : (((x0 + 1) + x1) ≠ x2)) (h1 : (x0 < x2)) (h2 : (x1 ≤ (x2 - (x0 + 1)))) : (((x0 + 1) + x1) < x2) := by lia
theorem ar219 {x0 x1 x2 x3 : Nat} (h0 : (x0 ≤ (x1 + x2))) : (x0 ≤ (x1 + ((x2 + 1) + x3))) := by lia
theorem ar220 {x0 x1 x2 x3 : Nat} (h0 : (x0 ≤ ((x1 + x2) + 1))) : (x0 ≤ ((x1 + ((x2 + 1) + x3)) + 1)) := by lia
theorem ar221 {x0 : Nat} (h0 : (¬ (x0 > 0))) : (x0 = 0) := by exact Nat.eq_zero_of_not_pos h0
theorem ar222 {x0 x1 : Nat} : ((min (x0 + 1) x1) ≤ (x0 + 1)) := by exact Nat.min_le_left (x0 + 1) x1
theorem ar223 {x0 x1 x2 : Nat} (h0 : (x0 ≤ (x1 + x2))) : (x0 ≤ (x1 + (x2 + 1))) := by exact Nat.le_succ_of_le h0
theorem ar224 {x0 x1 x2 : Nat} (h0 : (x0 ≤ ((x1 + x2) + 1))) : (x0 ≤ ((x1 + (x2 + 1)) + 1)) := by exact Nat.le_add_right_of_le h0
theorem ar225 {x0 x1 : Nat} (h0 : ((x0 + 1) < x1)) : (0 < (x1 - x0)) := by lia
theorem ar226 {x0 x1 : Nat} (h0 : ((x0 + 1) < x1)) : ((x0 + (x1 - x0)) ≤ x1) := by lia
theorem ar227 {x0 x1 x2 : Nat} (h0 : ((x0 + 1) < x1)) (h1 : (x2 < (x0 + (x1 - x0)))) : (x2 < x1) := by lia
theorem ar228 {x0 x1 x2 : Nat} (h0 : ((x0 + x1) < x2)) : (x1 < (x2 - x0)) := by exact Nat.lt_sub_iff_add_lt'.mpr h0
theorem ar229 {x0 x1 x2 : Nat} (h0 : ((x0 + 1) < x1)) (h1 : (x2 ≤ (x1 - x0))) : ((x0 + x2) ≤ x1) := by lia
theorem ar230 {x0 x1 x2 : Nat} (h0 : (((x0 + x1) + 1) ≠ x2)) (h1 : ((x0 + 1) < x2)) (h2 : ((x0 + x1) ≠ x2)) (h3 : (x1 ≤ (x2 - x0))) : (((x0 + x1) + 1) < x2) := by lia
theorem ar231 {x0 x1 x2 x3 : Nat} (h0 : (x0 ≤ (x1 + x2))) : (x0 ≤ ((x1 + x3) + x2)) := by lia
theorem ar232 {x0 x1 x2 x3 : Nat} (h0 : (x0 ≤ ((x1 + x2) + 1))) : (x0 ≤ (((x1 + x3) + x2) + 1)) := by lia
theorem ar233 {x0 x1 x2 : Nat} (h0 : (x0 ≤ ((x1 + x2) + 1))) : (x0 ≤ (x1 + (x2 + 1))) := by omega
theorem ar234 {x0 x1 : Nat} (h0 : ((x0 + 1) < x1)) : (x0 < x1) := by exact Nat.lt_of_succ_lt h0
theorem ar235 {x0 x1 x2 x3 : Nat} (h0 : ((x0 + x1) ≤ (x2 + x3))) : (x0 ≤ (x2 + x3)) := by exact Nat.le_of_add_right_le h0
theorem ar236 {x0 x1 x2 x3 : Nat} (h0 : ((x0 + x1) ≤ (x2 + x3))) : ((x0 + (x1 + 1)) ≤ ((x2 + x3) + 1)) := by exact Nat.le_add_of_sub_le h0
theorem ar237 {x0 x1 x2 x3 x4 : Nat} (h0 : ((x0 + (max 0 (x1 + x2))) ≤ (x3 + x4))) (h1 : ((x3 + 1) < x1)) (h2 : (x4 < x2)) : False := by omega
theorem ar238 {x0 : Nat} (h0 : ((0 + 1) ≠ x0)) (h1 : (1 ≤ x0)) : ((0 + 1) < x0) := by exact Nat.lt_of_le_of_ne h1 h0
theorem ar239 {x0 : Nat} (h0 : (1 ≠ x0)) (h1 : (1 ≤ x0)) : (1 < x0) := by exact Nat.lt_of_le_of_ne h1 h0
theorem ar240 : (0 ≤ (0 + 1)) := by lia
theorem ar241 {x0 x1 x2 x3 : Nat} (h0 : ((x0 + x1) ≤ (x2 + x3))) : ((x0 + 1) ≤ ((x2 + x3) + 1)) := by lia
theorem ar242 {x0 x1 x2 x3 : Nat} (h0 : ((max 0 (x0 + x1)) ≤ (x2 + x3))) (h1 : ((x2 + 1) < x0)) (h2 : (x3 < x1)) : False := by omega
theorem ar243 {x0 x1 x2 x3 x4 : Nat} (h0 : (x0 < ((min x1 x2) - x3))) (h1 : (x1 ≤ x4)) : ((x3 + x0) < x4) := by omega
theorem ar244 {x0 : Nat} (h0 : (x0 ≠ 0)) : (1 ≤ x0) := by exact Nat.one_le_iff_ne_zero.mpr h0
theorem ar245 {x0 x1 : Nat} (h0 : ((x0 + 1) ≤ x1)) : (x0 < x1) := by lia
theorem ar246 {x0 x1 : Nat} (h0 : ((x0 + 1) ≤ x1)) : ((0 + x0) ≤ x1) := by lia
theorem ar247 {x0 x1 x2 : Nat} (h0 : ((x0 + 1) ≤ x1)) (h1 : (x2 < (0 + x0))) : (x2 < x1) := by lia
theorem ar248 {x0 x1 : Nat} (h0 : ((x0 + 1) ≤ x1)) : (x0 ≤ x1) := by exact Nat.le_of_succ_le h0
theorem ar249 {x0 : Nat} (h0 : (x0 ≠ 0)) (h1 : (x0 ≠ 1)) : (2 ≤ x0) := by lia
theorem ar250 {x0 x1 x2 x3 x4 x5 : Nat} (h0 : (((x0 + x1) + x2) ≤ (x3 + x4))) (h1 : (1 ≤ x2)) (h2 : (x5 ≤ x2)) : (((x0 + ((x1 + 1) - 1)) + x5) ≤ (x3 + x4)) := by lia
theorem ar251 {x0 x1 : Nat} (h0 : (x0 ≤ x1)) (h1 : (¬ ((x1 - x0) > 0))) : (x0 = x1) := by lia
theorem ar252 {x0 x1 : Nat} : ((min x0 x1) ≤ x0) := by exact Nat.min_le_left x0 x1
theorem ar253 {x0 : Nat} (h0 : (1 ≤ x0)) (h1 : (x0 ≠ 1)) : (2 ≤ x0) := by lia
theorem ar254 {x0 x1 : Nat} (h0 : (x0 ≤ x1)) : ((0 + x0) ≤ x1) := by lia
theorem ar255 {x0 x1 x2 : Nat} (h0 : (x0 < (0 + x1))) (h1 : (x1 ≤ x2)) : (x0 < x2) := by lia
theorem ar256 {x0 x1 x2 : Nat} (h0 : (1 ≤ x0)) (h1 : (x1 ≤ x0)) (h2 : (x0 ≤ x2)) : ((x1 - 1) < x2) := by omega
theorem ar257 {x0 x1 : Nat} (h0 : (x0 = (x1 + 1))) : (1 ≤ x0) := by lia
theorem ar258 {x0 x1 : Nat} (h0 : (x0 ≠ 0)) (h1 : (x0 ≤ x1)) : (x0 = ((x0 - 1) + 1)) := by exact Eq.symm (Nat.succ_pred_eq_of_ne_zero h0)
theorem ar259 {x0 x1 x2 x3 x4 x5 : Nat} (h0 : (((x0 + x1) + x2) ≤ (x3 + x4))) (h1 : ((x5 + 1) ≤ x1)) (h2 : (1 ≤ x1)) : (((x0 + x5) + ((x2 + 1) - 1)) ≤ (x3 + x4)) := by lia
theorem ar260 {x0 : Nat} (h0 : (1 ≤ x0)) : (x0 = ((x0 - 1) + 1)) := by exact (Nat.sub_eq_iff_eq_add h0).mp rfl
theorem ar261 {x0 x1 x2 x3 x4 : Nat} (h0 : (((x0 + (x1 + 1)) + x2) ≤ (x3 + x4))) : (((x0 + x1) + ((x2 + 1) - 1)) ≤ (x3 + x4)) := by lia
theorem ar262 {x0 : Nat} (h0 : (x0 ≠ 0)) : (1 ≤ ((x0 + 1) - 1)) := by exact Nat.one_le_iff_ne_zero.mpr h0
theorem ar263 {x0 x1 x2 x3 x4 : Nat} (h0 : ((((x0 + x1) + x2) + 1) ≤ (x3 + x4))) : (((x0 + ((x1 + 1) - 1)) + (x2 + 1)) ≤ (x3 + x4)) := by lia
theorem ar264 {x0 : Nat} : (1 ≤ (x0 + 1)) := by exact Nat.le_add_left 1 x0
theorem ar265 {x0 : Nat} (h0 : (1 ≤ x0)) (h1 : (x0 ≠ 1)) : (2 ≤ ((x0 + 1) - 1)) := by lia
theorem ar266 {x0 x1 x2 x3 x4 : Nat} (h0 : ((((x0 + x1) + x2) + 1) ≤ (x3 + x4))) : (((x0 + (x1 + 1)) + ((x2 + 1) - 1)) ≤ (x3 + x4)) := by lia
theorem ar267 {x0 : Nat} (h0 : (2 ≤ (x0 + 1))) : (1 ≤ x0) := by exact Nat.le_of_lt_succ h0
theorem ar268 {x0 x1 x2 x3 x4 x5 : Nat} (h0 : ((((x0 + x1) + x2) + (x3 + 1)) ≤ (x4 + x5))) : (((x0 + x2) + x3) ≤ (x4 + x5)) := by lia
theorem ar269 {x0 x1 x2 x3 x4 x5 : Nat} (h0 : ((((x0 + x1) + x2) + (x3 + 1)) ≤ (x4 + x5))) : ((((x0 + (x1 + 1)) + x2) + x3) ≤ (x4 + x5)) := by lia
theorem ar270 {x0 : Nat} (h0 : (1 ≤ x0)) : (((x0 - 1) + 1) ≤ x0) := by omega
theorem ar271 {x0 : Nat} (h0 : (1 ≤ x0)) : (x0 ≤ ((x0 - 1) + 1)) := by omega
theorem ar272 {x0 : Nat} (h0 : ((x0 - 1) ≠ 0)) : (1 ≤ (x0 - 1)) := by exact Nat.one_le_iff_ne_zero.mpr h0
theorem ar273 {x0 x1 : Nat} (h0 : (1 ≤ x0)) : (((0 + (x0 - 1)) + x1) ≤ (x0 + x1)) := by lia
theorem ar274 {x0 x1 x2 x3 x4 x5 : Nat} (h0 : ((((x0 + x1) + (x2 + 1)) + (x3 + 1)) ≤ (x4 + x5))) : (((((x0 + 1) + x2) + x3) + 1) ≤ (x4 + x5)) := by lia
theorem ar275 {x0 x1 x2 x3 x4 x5 : Nat} (h0 : ((((x0 + x1) + (x2 + 1)) + (x3 + 1)) ≤ (x4 + x5))) : (((((x0 + (x1 + 1)) + x2) + x3) + 1) ≤ (x4 + x5)) := by lia
theorem ar276 {x0 x1 x2 x3 x4 : Nat} (h0 : ((((x0 + (max 0 (x1 + x2))) + x3) + x4) ≤ (x1 + x2))) (h1 : (1 ≤ x3)) : False := by omega
theorem ar277 {x0 x1 x2 x3 : Nat} (h0 : ((((max 0 (x0 + x1)) + x2) + x3) ≤ (x0 + x1))) (h1 : (1 ≤ x2)) : False := by omega
theorem ar278 {x0 : Nat} (h0 : (x0 < 100)) : (((x0 + (3 * 3)) + 3) < 1000) := by lia
theorem ar283 {x0 x1 : Nat} (h0 : (x0 < (Int.toNat ((x1 : Nat) : Int)))) : ((Int.toNat (0 + ((x0 : Nat) : Int))) = x0) := by lia
theorem ar284 {x0 x1 : Nat} (h0 : (x0 < (Int.toNat ((x1 : Nat) : Int)))) (h1 : (x1 ≤ 14)) : (x0 < 14) := by exact Nat.lt_of_lt_of_le h0 h1
theorem ar285 {x0 : Nat} (h0 : (x0 < 14)) : (x0 ≤ 14) := by lia
theorem ar286 {x0 x1 x2 x3 : Nat} (h0 : (x0 < 14)) (h1 : (x1 ≤ (14 * 14))) (h2 : (x2 ≤ x1)) (h3 : (x3 ≤ x0)) : ((x2 + x3) < 10000) := by lia
theorem ar287 {x0 : Nat} : ((0 : Int) ≤ (0 + ((x0 : Nat) : Int))) := by exact Int.zero_le_ofNat (0 + x0)
theorem ar289 {x0 : Nat} (h0 : (x0 < 100)) : (x0 < 1000) := by lia
theorem ar290 {x0 : Nat} (h0 : (x0 ≤ 14)) : (x0 < 1000) := by lia
theorem ar292 {x0 : Nat} (h0 : (x0 < 100)) : ((((x0 + 1) + 1) + 64) < 9900) := by lia
theorem ar294 {x0 : Nat} (h0 : (x0 < 10000)) : (x0 ≤ 16777216) := by lia
theorem ar295 {x0 : Nat} (h0 : (x0 ≤ 64)) : (x0 < 1000) := by lia
theorem ar296 {x0 x1 : Nat} (h0 : ((x0 + 6) < x1)) : (x0 < x1) := by exact Nat.lt_of_add_right_lt h0
theorem ar297 {x0 x1 : Nat} (h0 : (x0 < x1)) (h1 : (x0 = ((((x1 + 1) + 1) + 1) + 1))) : False := by omega
theorem ar298 {x0 x1 : Nat} (h0 : (x0 < x1)) (h1 : (x0 = (((x1 + 1) + 1) + 1))) : False := by omega
theorem ar300 {x0 x1 : Nat} (h0 : ((x0 < 1000) ∧ (x1 < 1000))) : (x0 ≤ 16777216) := by lia
theorem ar301 {x0 x1 : Nat} (h0 : (x0 < x1)) : ((Int.toNat (0 + (((x0 : Nat) : Int) * 1))) = x0) := by lia
theorem ar302 {x0 : Nat} : ((0 : Int) ≤ (0 + (((x0 : Nat) : Int) * 1))) := by exact Int.zero_le_ofNat (0 + x0 * 1)
theorem ar305 {x0 x1 : Nat} (h0 : ((x0 < 1000) ∧ (x1 < 1000))) : (x1 ≤ 16777216) := by lia
theorem ar307 {x0 : Nat} (h0 : (x0 < 1000)) : (x0 < 10000) := by lia
theorem ar308 {x0 x1 : Nat} (h0 : (x0 < x1)) (h1 : (x1 = x0)) : False := by omega
theorem ar309 {x0 x1 x2 : Nat} (h0 : (((((x0 + 1) + 1) + 1) + 1) < x1)) (h1 : (x2 < x0)) (h2 : (x2 = x1)) : False := by omega
theorem ar310 {x0 x1 : Nat} (h0 : (((((x0 + 1) + 1) + 1) + 1) < x1)) (h1 : (((((x0 + 1) + 1) + 1) + 1) = x1)) : False := by omega
theorem ar311 {x0 x1 : Nat} (h0 : (((((x0 + 1) + 1) + 1) + 1) < x1)) (h1 : ((((x0 + 1) + 1) + 1) = x1)) : False := by omega
theorem ar312 {x0 x1 : Nat} (h0 : (((((x0 + 1) + 1) + 1) + 1) < x1)) (h1 : (((x0 + 1) + 1) = x1)) : False := by omega
theorem ar313 {x0 x1 : Nat} (h0 : (((((x0 + 1) + 1) + 1) + 1) < x1)) (h1 : ((x0 + 1) = x1)) : False := by omega
theorem ar314 {x0 x1 x2 : Nat} (h0 : (((((x0 + 1) + 1) + 1) + 1) < x1)) (h1 : (((((x0 + 1) + 1) + 1) + 1) = x2)) (h2 : (x1 < x2)) : False := by omega
theorem ar315 {x0 x1 x2 : Nat} (h0 : (((((x0 + 1) + 1) + 1) + 1) < x1)) (h1 : ((((x0 + 1) + 1) + 1) = x2)) (h2 : (x1 < x2)) : False := by omega
theorem ar316 {x0 x1 x2 : Nat} (h0 : (((((x0 + 1) + 1) + 1) + 1) < x1)) (h1 : (((x0 + 1) + 1) = x2)) (h2 : (x1 < x2)) : False := by omega
theorem ar317 {x0 x1 x2 : Nat} (h0 : (((((x0 + 1) + 1) + 1) + 1) < x1)) (h1 : ((x0 + 1) = x2)) (h2 : (x1 < x2)) : False := by omega
theorem ar318 {x0 x1 : Nat} (h0 : (x0 = x1)) (h1 : (x1 ≤ 64)) : (x0 ≤ 64) := by exact le_of_eq_of_le h0 h1
theorem ar319 {x0 x1 : Nat} (h0 : (2 ≤ x0)) (h1 : (x0 = x1)) : (2 ≤ x1) := by exact le_of_le_of_eq h0 h1
theorem ar320 {x0 : Nat} (h0 : (x0 < 1000)) : (((((x0 + 3) + 1) + 1) + 64) < 9900) := by lia
theorem ar321 {x0 x1 x2 : Nat} (h0 : (((x0 + (4 * x1)) + 4) < x2)) : (x0 < x2) := by lia
theorem ar322 {x0 x1 x2 x3 x4 x5 : Nat} (h0 : (x0 < x1)) (h1 : (x2 < x3)) (h2 : (x3 < x0)) (h3 : (x1 < x4)) (h4 : (x4 < x5)) (h5 : (x5 = x2)) : False := by omega
theorem ar323 {x0 x1 x2 x3 : Nat} (h0 : (x0 < x1)) (h1 : (x2 < x0)) (h2 : (x1 < x3)) (h3 : (x3 = x2)) : False := by omega
theorem ar324 {x0 x1 x2 x3 x4 : Nat} (h0 : (x0 < x1)) (h1 : (x2 < x3)) (h2 : (x3 < x0)) (h3 : (x1 < x4)) (h4 : (x4 = x2)) : False := by omega
theorem ar325 {x0 x1 x2 : Nat} (h0 : (x0 < x1)) (h1 : (x2 < x0)) (h2 : (x1 = x2)) : False := by omega
theorem ar326 {x0 : Int} {x1 : Nat} (h0 : ((x0 : Int) = (2 - (((x1 + 1) : Nat) : Int)))) : (((x0 + 1) : Int) = (2 - ((x1 : Nat) : Int))) := by lia
theorem ar327 {x0 x1 x2 : Nat} (h0 : (((x0 + (4 * (x1 + 1))) + 4) < x2)) : ((((x0 + 1) + (4 * x1)) + 4) < x2) := by lia
theorem ar328 {x0 x1 x2 : Nat} (h0 : (((x0 + (4 * (x1 + 1))) + 4) < x2)) : (((x0 + 1) + 2) < x2) := by lia
theorem ar329 {x0 x1 x2 x3 x4 : Nat} (h0 : (x0 < x1)) (h1 : (x2 < x3)) (h2 : (x3 < x0)) (h3 : (x1 < x4)) (h4 : (x2 = x4)) : False := by omega
theorem ar330 {x0 x1 : Nat} (h0 : (x0 < x1)) (h1 : (x0 = x1)) : False := by omega
theorem ar331 {x0 x1 : Nat} (h0 : ((x0 + 1) = (x1 + 1))) : (x0 = x1) := by exact Nat.add_right_cancel h0
theorem ar332 {x0 x1 : Nat} (h0 : ((x0 + 20) < x1)) : (x0 < x1) := by exact Nat.lt_of_add_right_lt h0
theorem ar333 : ((0 : Int) = (2 - ((2 : Nat) : Int))) := by exact Int.neg_inj.mp rfl
theorem ar334 {x0 x1 : Nat} (h0 : ((x0 + 20) < x1)) : ((((x0 + 1) + (4 * 2)) + 4) < x1) := by lia
theorem ar335 {x0 x1 : Nat} (h0 : ((x0 + 20) < x1)) : (((x0 + 1) + 2) < x1) := by lia
theorem ar336 {x0 x1 x2 x3 x4 x5 : Nat} (h0 : ((x0 < x1) ∧ ((x2 < x1) ∧ ((x3 < x1) ∧ ((x4 < x1) ∧ (x5 < x1)))))) (h1 : (x1 = x4)) : False := by omega
theorem ar337 {x0 x1 x2 x3 x4 x5 : Nat} (h0 : ((x0 < x1) ∧ ((x2 < x1) ∧ ((x3 < x1) ∧ ((x4 < x1) ∧ (x5 < x1)))))) (h1 : (x0 = x1)) : False := by omega
theorem ar338 {x0 x1 x2 x3 x4 x5 : Nat} (h0 : ((x0 < x1) ∧ ((x2 < x1) ∧ ((x3 < x1) ∧ ((x4 < x1) ∧ (x5 < x1)))))) (h1 : (x2 = x1)) : False := by omega
theorem ar339 {x0 x1 x2 x3 x4 x5 : Nat} (h0 : ((x0 < x1) ∧ ((x2 < x1) ∧ ((x3 < x1) ∧ ((x4 < x1) ∧ (x5 < x1)))))) (h1 : (x3 = x1)) : False := by omega
theorem ar340 {x0 x1 x2 x3 x4 x5 : Nat} (h0 : ((x0 < x1) ∧ ((x2 < x1) ∧ ((x3 < x1) ∧ ((x4 < x1) ∧ (x5 < x1)))))) (h1 : (x4 = x1)) : False := by omega
theorem ar341 {x0 x1 x2 x3 x4 x5 : Nat} (h0 : ((x0 < x1) ∧ ((x2 < x1) ∧ ((x3 < x1) ∧ ((x4 < x1) ∧ (x5 < x1)))))) (h1 : (x5 = x1)) : False := by omega
theorem ar342 {x0 x1 x2 : Nat} (h0 : (((x0 + (2 * x1)) + 12) < x2)) (h1 : (x1 ≤ 3)) : (x0 < x2) := by lia
theorem ar343 {x0 x1 : Nat} (h0 : (x0 ≤ x1)) : ((x0 + 1) ≤ (x1 + 1)) := by exact Nat.add_le_add_right h0 1
theorem ar344 {x0 x1 : Nat} (h0 : (x0 < (x1 + 1))) (h1 : (x0 ≥ x1)) : (x0 = x1) := by exact Nat.eq_of_le_of_lt_succ h1 h0
theorem ar346 {x0 x1 : Nat} (h0 : ((x0 + (x1 + 1)) ≤ 7)) : (x0 < 100) := by lia
theorem ar347 {x0 : Nat} (h0 : ((x0 + 1) ≤ 3)) : ((x0 = 0) ∨ ((x0 = 1) ∨ (x0 = 2))) := by lia
theorem ar348 {x0 x1 : Nat} (h0 : (x0 ≤ 14)) (h1 : (x1 ≤ x0)) : ((x1 + 1) ≤ 100) := by lia
theorem ar349 {x0 : Nat} (h0 : ((x0 + 1) ≤ 3)) : (x0 ≤ 3) := by lia
theorem ar350 {x0 x1 : Nat} (h0 : ((x0 + (x1 + 1)) ≤ 7)) : (((x0 + 1) + x1) ≤ 7) := by lia
theorem ar351 {x0 x1 x2 : Nat} (h0 : (((x0 + (2 * (x1 + 1))) + 12) < x2)) : ((((x0 + 1) + (2 * x1)) + 12) < x2) := by lia
theorem ar352 {x0 x1 : Nat} (h0 : (((x0 + (3 * (x1 + 1))) + 3) < 1000)) : ((((x0 + 3) + (3 * x1)) + 3) < 1000) := by lia
theorem ar353 {x0 x1 : Nat} (h0 : (x0 ≤ 14)) (h1 : (x1 ≤ x0)) : (x1 < 10000) := by lia
theorem ar354 {x0 x1 : Nat} (h0 : (x0 < 10000)) (h1 : (x1 < 10000)) : (((x1 + (0 + 1)) + x0) ≤ 16777216) := by lia
theorem ar355 {x0 : Nat} : (¬ (0 = (x0 + 1))) := by exact Nat.zero_ne_add_one x0
theorem ar356 {x0 x1 : Nat} (h0 : ((x0 + 1) = (x1 + 1))) : (x1 = x0) := by lia
theorem ar357 {x0 x1 x2 : Nat} (h0 : (((x0 + (2 * x1)) + 16) < x2)) (h1 : (x1 ≤ 3)) : (x0 < x2) := by lia
theorem ar358 {x0 x1 : Nat} (h0 : ((x0 + x1) ≤ 7)) : (x0 ≤ 7) := by exact Nat.le_of_add_right_le h0
theorem ar359 {x0 x1 x2 : Nat} (h0 : (((x0 + (2 * x1)) + 16) < x2)) (h1 : (x1 ≤ 3)) : (((x0 + 1) + 12) < x2) := by lia
theorem ar360 {x0 x1 : Nat} (h0 : ((x0 + (x1 + 1)) ≤ 7)) (h1 : ((x1 + 1) ≤ 3)) : (x0 ≤ 7) := by exact Nat.le_of_add_right_le h0
theorem ar361 {x0 x1 x2 : Nat} (h0 : (((x0 + (2 * (x1 + 1))) + 16) < x2)) (h1 : ((x1 + 1) ≤ 3)) : (((x0 + 1) + 12) < x2) := by lia
theorem ar362 {x0 : Nat} (h0 : ((x0 + 1) ≤ 3)) : (x0 ≤ 2) := by exact Nat.le_of_lt_succ h0
theorem ar363 {x0 x1 x2 : Nat} (h0 : (((x0 + (2 * (x1 + 1))) + 16) < x2)) (h1 : ((x1 + 1) ≤ 3)) : (((x0 + 1) + 8) < x2) := by lia
theorem ar364 {x0 x1 : Nat} (h0 : (((x0 + (3 * (x1 + 1))) + 3) < 1000)) (h1 : ((x1 + 1) ≤ 3)) : ((x0 + 3) < 1000) := by lia
theorem ar365 {x0 : Nat} (h0 : (x0 < 5000)) : (x0 ≤ 16777216) := by lia
theorem ar366 {x0 x1 x2 : Nat} (h0 : (((x0 + (2 * (x1 + 1))) + 16) < x2)) : ((((x0 + 1) + (2 * x1)) + 16) < x2) := by lia
theorem ar367 {x0 : Nat} (h0 : ((x0 + 1) ≤ 3)) : (x0 ≤ 6) := by lia
theorem ar369 {x0 : Int} {x1 : Int} (h0 : ((x0 : Int) = (((Int.toNat (x1 - 0)) : Nat) : Int))) : ((Int.toNat (x1 - 0)) = (Int.toNat x1)) := by lia
theorem ar370 {x0 : Int} (h0 : ((0 : Int) ≤ x0)) (h1 : ((x0 : Int) < 4)) : (((x0 : Int) = 0) ∨ (((x0 : Int) = 1) ∨ (((x0 : Int) = 2) ∨ ((x0 : Int) = 3)))) := by lia
theorem ar377 {x0 x1 : Nat} (h0 : (x0 ≤ x1)) : (((x1 + 1) - (x0 + 1)) < ((x1 + 1) - x0)) := by lia
theorem ar378 {x0 x1 : Nat} (h0 : (x0 ≤ x1)) (h1 : (¬ (x0 < x1))) : (x0 = x1) := by lia
theorem ar379 {x0 x1 : Nat} (h0 : ((x0 + 4) < x1)) : (x0 < x1) := by exact Nat.lt_of_add_right_lt h0
theorem ar380 {x0 x1 : Nat} (h0 : (x0 = x1)) : (x0 ≤ x1) := by exact Nat.le_of_eq h0
theorem ar381 {x0 x1 : Nat} (h0 : (x0 < x1)) : ((x0 + 1) ≤ x1) := by exact Nat.succ_le_of_lt h0
theorem ar382 {x0 x1 : Nat} (h0 : ((x0 + 8) < x1)) : (x0 < x1) := by exact Nat.lt_of_add_right_lt h0
theorem ar383 {x0 x1 : Nat} (h0 : ((x0 + 8) < x1)) : (((x0 + 1) + 4) < x1) := by lia
theorem ar384 {x0 x1 : Nat} (h0 : (x0 ≤ 2)) (h1 : (x1 ≤ x0)) : (x1 ≤ 16777216) := by lia
theorem ar385 {x0 : Nat} (h0 : (x0 ≤ 2)) : (x0 ≤ 16384) := by lia
theorem ar386 {x0 x1 x2 : Nat} (h0 : (((x0 + (x1 + 1)) + 8) < x2)) : ((x0 + 8) < x2) := by lia
theorem ar387 {x0 x1 x2 x3 : Nat} (h0 : (((x0 + (x1 + 1)) + 8) < x2)) (h1 : (x3 ≤ (x0 + 1))) : (((x3 + x1) + 8) < x2) := by lia
theorem ar388 {x0 x1 x2 : Nat} (h0 : (((x0 + (x1 + 1)) + 8) < x2)) : (((x0 + (x1 + 1)) + 8) < x2) := by omega
theorem ar389 {x0 : Nat} (h0 : (x0 < 1000)) : ((x0 + 3) < 9900) := by lia
theorem ar391 {x0 x1 : Nat} (h0 : ((x0 + 6) < x1)) : (((x0 + 1) + 4) < x1) := by exact Nat.lt_of_succ_lt h0
theorem ar392 {x0 : Nat} (h0 : (113 < x0)) (h1 : (x0 = 113)) : False := by omega
theorem ar393 {x0 x1 : Nat} (h0 : (113 < x0)) (h1 : (x0 < x1)) (h2 : (x1 = 113)) : False := by omega
theorem ar394 {x0 x1 : Nat} (h0 : ((x0 + 8) < x1)) : (((x0 + 1) + 6) < x1) := by exact Nat.lt_of_succ_lt h0
theorem ar395 {x0 x1 : Nat} (h0 : ((x0 + 10) < x1)) : (x0 < x1) := by exact Nat.lt_of_add_right_lt h0
theorem ar396 {x0 x1 : Nat} (h0 : ((x0 + 10) < x1)) : (((x0 + 1) + 8) < x1) := by exact Nat.lt_of_succ_lt h0
theorem ar397 {x0 x1 : Nat} (h0 : ((x0 + 12) < x1)) : (x0 < x1) := by exact Nat.lt_of_add_right_lt h0
theorem ar398 {x0 : Nat} (h0 : (x0 ≤ 7)) : ((x0 + 1) ≤ 8) := by exact Nat.succ_le_succ h0
theorem ar399 {x0 x1 : Nat} (h0 : ((x0 + 12) < x1)) : (((x0 + 1) + 10) < x1) := by lia
theorem ar400 {x0 x1 x2 x3 : Nat} (h0 : (x0 ≤ x1)) (h1 : (x2 ≤ x3)) : ((x2 + x0) ≤ (x1 + x3)) := by lia
theorem ar401 {x0 : Nat} : ((2 * (2 * x0)) ≤ (x0 * 4)) := by lia
theorem ar403 {x0 x1 : Nat} (h0 : ((x0 + x1) < 10000)) : ((x0 + x1) ≤ 16777216) := by lia
theorem ar404 {x0 x1 : Nat} (h0 : ((x0 + x1) < 10000)) : (x0 ≤ 16777216) := by lia
theorem ar405 {x0 x1 : Nat} (h0 : ((x0 + x1) < 10000)) : ((x0 + x1) ≤ (16777216 + 1)) := by lia
theorem ar406 {x0 x1 : Nat} (h0 : (x0 ≤ x1)) : ((x0 + 1) ≤ (1 + x1)) := by exact Nat.sub_le_iff_le_add'.mp h0
theorem ar407 {x0 : Nat} (h0 : (x0 < 100)) : ((x0 + (0 + 1)) ≤ 16777216) := by lia
theorem ar408 {x0 : Nat} : ((Int.toNat (0 + (((x0 : Nat) : Int) * 1))) = x0) := by lia
theorem ar409 {x0 : Nat} : (((0 + (((x0 : Nat) : Int) * 1)) : Int) = ((x0 : Nat) : Int)) := by lia
theorem ar410 {x0 : Nat} (h0 : (x0 ≤ 64)) : (x0 ≤ 16777216) := by lia
theorem ar411 {x0 : Nat} (h0 : (x0 ≤ 64)) : (x0 ≤ (16777216 + 1)) := by lia
theorem ar412 {x0 x1 : Nat} (h0 : (x0 < 2)) (h1 : (x0 = x1)) : (x1 < 2) := by exact lt_of_eq_of_lt (id (Eq.symm h1)) h0
theorem ar413 {x0 x1 : Nat} (h0 : (x0 = x1)) (h1 : (¬ (x0 < 2))) : (2 ≤ x1) := by lia
theorem ar414 {x0 x1 x2 x3 : Nat} (h0 : ((min x0 x1) ≤ 64)) (h1 : ((x2 + 64) < x3)) : ((x2 + (min x0 x1)) < x3) := by lia
theorem ar415 {x0 x1 : Nat} (h0 : ((x0 + 64) < x1)) : (x0 < x1) := by exact Nat.lt_of_add_right_lt h0
theorem ar416 {x0 x1 x2 x3 : Nat} (h0 : (x0 < ((min x1 x2) - x3))) (h1 : (x1 ≤ x2)) : ((x3 + x0) < x1) := by lia
theorem ar417 {x0 x1 x2 x3 : Nat} (h0 : (x0 < ((min x1 x2) - x3))) : ((x3 + x0) < x2) := by omega
theorem ar418 {x0 x1 : Nat} : (((x0 + x1) - x0) = x1) := by exact Nat.add_sub_self_left x0 x1
theorem ar419 {x0 x1 : Nat} (h0 : (x0 = x1)) : (x1 ≤ x0) := by exact Nat.le_of_eq (id (Eq.symm h0))
theorem ar420 {x0 x1 : Nat} (h0 : ((x0 + 1) = x1)) : (x0 < x1) := by lia
theorem ar421 {x0 x1 : Nat} (h0 : ((x0 + 1) = x1)) : (x1 ≤ (x0 + 1)) := by exact Nat.le_of_eq (id (Eq.symm h0))
theorem ar422 {x0 x1 : Nat} (h0 : ((x0 + 1) = x1)) : ((x1 - 1) = x0) := by exact Eq.symm (Nat.eq_sub_of_add_eq h0)
theorem ar423 {x0 x1 : Nat} (h0 : (1 ≤ x0)) (h1 : (x1 < x0)) (h2 : (x1 ≥ (x0 - 1))) : (x1 = (x0 - 1)) := by lia
theorem ar424 {x0 x1 x2 : Nat} (h0 : (x0 ≤ x1)) (h1 : (x2 ≤ x0)) : (x2 ≤ (min x0 x1)) := by lia
theorem ar425 {x0 : Nat} : (((x0 + 1) - x0) = 1) := by exact Nat.add_sub_self_left x0 1
theorem ar426 {x0 : Nat} : (x0 ≤ (x0 + 1)) := by exact Nat.le_add_right x0 1
theorem ar427 {x0 x1 : Nat} (h0 : (x0 > 0)) (h1 : (x0 ≤ x1)) : ((x0 - 1) < x1) := by exact Nat.sub_one_lt_of_le h0 h1
theorem ar428 {x0 : Nat} (h0 : (x0 > 0)) : (((x0 - 1) + 1) = x0) := by exact Nat.sub_add_cancel h0
theorem ar429 : (0 ≤ 0) := by lia
theorem ar430 {x0 x1 x2 x3 : Nat} (h0 : (((x0 * 1000) + x1) = ((x2 * 1000) + x3))) (h1 : ((x0 < 1000) ∧ (x1 < 1000))) (h2 : ((x2 < 1000) ∧ (x3 < 1000))) : (x0 = x2) := by lia
theorem ar431 {x0 x1 x2 x3 : Nat} (h0 : (((x0 * 1000) + x1) = ((x2 * 1000) + x3))) (h1 : (x0 = x2)) : (x1 = x3) := by lia
theorem ar432 {x0 x1 x2 : Nat} (h0 : (x0 = x1)) (h1 : (x0 ≤ x2)) : (x1 ≤ x2) := by exact le_of_eq_of_le (id (Eq.symm h0)) h1
theorem ar433 {x0 x1 x2 : Nat} (h0 : (2 ≤ x0)) (h1 : (x1 = x2)) (h2 : (x2 = x0)) : (0 < x1) := by lia
theorem ar434 {x0 : Nat} (h0 : (x0 ≤ 64)) (h1 : (¬ (x0 = 64))) : (x0 < 64) := by exact Nat.lt_of_le_of_ne h0 h1
theorem ar435 {x0 x1 : Nat} (h0 : (x0 = x1)) (h1 : (x1 ≤ 24)) : (x0 ≤ 24) := by exact le_of_eq_of_le h0 h1
theorem ar436 {x0 x1 : Nat} (h0 : (x0 ≤ 3)) : (x0 ≤ ((2 * x1) + 5)) := by lia
theorem ar437 {x0 : Nat} : ((0 + 1) ≤ ((2 * x0) + 5)) := by exact Nat.le_add_left (0 + 1) (2 * x0 + 4)
theorem ar438 {x0 x1 : Nat} (h0 : (x0 ≤ ((2 * x1) + 4))) : ((x0 + 1) ≤ ((2 * x1) + 5)) := by exact Nat.add_le_add_right h0 1
theorem ar439 {x0 : Nat} (h0 : (x0 < 1000)) : ((x0 + 64) < 9900) := by lia
theorem ar440 {x0 x1 : Nat} (h0 : (x0 < (x1 + 1))) (h1 : (¬ (x0 = x1))) : (x0 < x1) := by lia
theorem ar441 {x0 x1 : Nat} (h0 : (x0 < 1000)) (h1 : (x1 < x0)) : (x1 < 1000) := by exact Nat.lt_trans h1 h0
theorem ar442 {x0 x1 : Nat} : (¬ ((x0 < x0) ∨ ((x0 = x0) ∧ (x1 < x1)))) := by lia
theorem ar443 {x0 x1 x2 x3 : Nat} (h0 : ((x0 < x1) ∨ ((x0 = x1) ∧ (x2 < x3)))) (h1 : ((x1 < x0) ∨ ((x1 = x0) ∧ (x3 < x2)))) : False := by omega
theorem ar444 {x0 x1 : Nat} (h0 : (x0 = x1)) (h1 : (x0 ≤ 64)) : (x1 ≤ 64) := by exact le_of_eq_of_le (id (Eq.symm h0)) h1
theorem ar445 {x0 x1 : Nat} (h0 : ((max x0 0) ≤ ((2 * 4) + 4))) (h1 : ((max x1 0) ≤ ((2 * 4) + 4))) : (((max x1 (max x0 0)) + 1) ≤ 64) := by lia
theorem ar446 {x0 x1 : Nat} (h0 : ((x0 + 0) = x1)) : (x1 ≤ x0) := by lia
theorem ar447 {x0 x1 x2 : Nat} (h0 : ((x0 + (x1 + 1)) = x2)) : (((x0 + 1) + x1) = x2) := by lia
end
section
-- B0
theorem enterF {prog : Program} {w : World} {A : Around} {E : Value → Shared → Prop} {Q : Value → Shared → Prop} {s : Shared} {hB : Heap} {p : Program} {loose : List Str} {mean : ExcName → Option Value} {mg mb : Str → Option Value}
    {K : Frag} {f : Addr} {pos : List Value} {kw : List (Str × Value)} {binds : List (Str × Value)} {name qual : Str} {params : Arguments} {body : List Stmt} {scope : Scope} {dV kV doc pm cdv ct oc : Value} {an od : Option Addr} {osl : Array (Option Value)} {H : List (Addr × Obj)}
    (X : K.In hB) (T : Top p loose mean mg mb hB) (st : hB.StaysIn s.heap) (hH : ∀ q ∈ H, s.heap.get? q.1 = some q.2 ∧ hB.get? q.1 = none)
    (hroom : A.depth < recursionLimit)
    (ho : K.lookup f = some ⟨oc, od, .func (fnOf name qual params body scope dV kV doc pm an cdv ct), osl⟩) (hcd : codeIn K cdv qual = true)
    (hbind : BindsTo s (fnOf name qual params body scope dV kV doc pm an cdv ct) ⟨pos, kw⟩ binds) (hloc : ∀ y ∈ binds, scope.names.lookup y.1 = some .local) {rb : List (Str × Value)} (hrb : binds.reverse = rb)
    (h : ∀ g L' h₁, Fr g L' h₁ (fun y => rb.lookup y) → News g L' h₁ H → K.In g → Top p loose mean mg mb g → hB.StaysIn g →
      (∀ b o, b ∉ H.map (·.1) → s.heap.get? b = some o → g.get? b = some o) → g.StaysIn s.heap →
      wpAny (model prog w) (A.deeper (envOf qual scope L' f cdv)) (execs body (envOf qual scope L' f cdv))
        (fun fl s' => Q (match fl with | .ret v => v | _ => .none) s') (fun _ _ => False) { s with heap := h₁, toks := s.toks + binds.length })
    (hco : scope.isCoroutine = false) (hgen : scope.isGenerator = false) (hk : scope.kind = .function)
    (hcell : ∀ x ∈ scope.names, x.2 ≠ .cell) :
    wpAny (model prog w) A (call (.ref f) pos kw) Q E s := by
  subst hrb
  refine wpAny_call (codeAny_call_def (fd := fnOf name qual params body scope dV kV doc pm an cdv ct) (body := body) (binds := binds) hroom (st _ _ (X _ _ ho)) rfl (T.nolimit.keeps st) (codeRec_of (X.keeps st) hcd) rfl hbind hcell hloc (fun h₁ hns hk₁ => ?_) hco hgen hk)
  have nm : ∀ b o, hB.get? b = some o → b ∉ H.map (·.1) := fun b o e q => by
    obtain ⟨p, hp, rfl⟩ := List.mem_map.mp q
    rw [(hH p hp).2] at e; cases e
  have st' : hB.StaysIn (hideAll s.heap (H.map (·.1))) := fun b o e => hideAll_get _ (st b o e) (nm b o e)
  refine wpAny_mono (h (hideAll s.heap (H.map (·.1))) s.heap.objs.size h₁ ⟨hns, fun b o e => hk₁ b o (of_hideAll _ e), Nat.le_of_eq (hideAll_size _ _)⟩
    (fun q hq => ⟨hk₁ _ _ (hH q hq).1, Nat.ne_of_lt (Heap.lt_size (hH q hq).1), hideAll_none _ (List.mem_map_of_mem hq)⟩) (X.keeps fun b o e => st' b o e) (T.keeps fun b o e => st' b o e) st'
    (fun b o hb e => hideAll_get _ e hb) (fun b o e => of_hideAll _ e)) (fun fl s' hl => hl) (fun _ _ e => e.elim)

/-- what a call does to the heap: all that stood stays but at W; tl: what is new or anew -/
noncomputable def Fresh (h : Heap) (W : List Addr) (h' : Heap) (tl : List (Addr × Obj)) : Prop := ∀ q ∈ tl, h'.get? q.1 = some q.2 ∧ (h.get? q.1 = none ∨ q.1 ∈ W)
noncomputable def Does {α : Type} (prog : Program) (w : World) (A : Around) (W : List Addr) (t : Sem α) (s : Shared) (Φ : α → List (Addr × Obj) → Prop) : Prop :=
  ∀ (Q : α → Shared → Prop) (E : Value → Shared → Prop), (∀ r h' tk' tl, (∀ b o, b ∉ W → s.heap.get? b = some o → h'.get? b = some o) → Fresh s.heap W h' tl → Φ r tl → Q r { s with heap := h', toks := tk' }) → wpAny (model prog w) A t Q E s

theorem merge {h : Heap} {W : List Addr} {h₀ h' : Heap} {L : Addr} {m : Str → Option Value} {ws rest tl : List (Addr × Obj)}
    (F : Fr h₀ L h m) (N : News h₀ L h (ws ++ rest)) (hW : ∀ a ∈ W, ∃ o, (a, o) ∈ ws) (off : ∀ q ∈ rest, q.1 ∉ W)
    (keep : ∀ b o, b ∉ W → h.get? b = some o → h'.get? b = some o) (fresh : Fresh h W h' tl) :
    Fr h₀ L h' m ∧ News h₀ L h' (tl ++ rest) ∧ (∀ q ∈ tl, q.1 ∈ W ∨ ∀ p ∈ ws ++ rest, p.1 ≠ q.1) := by
  have hN : ∀ a ∈ W, h₀.get? a = none ∧ a ≠ L := fun a ha => by
    obtain ⟨o, ho⟩ := hW a ha
    have n := N (a, o) (List.mem_append_left _ ho)
    exact ⟨n.2.2, n.2.1⟩
  refine ⟨?_, ?_, ?_⟩
  · obtain ⟨o, es, ep, ho, hd⟩ := F.ns
    exact ⟨⟨o, es, ep, keep _ _ (fun q => (hN _ q).2 rfl) ho, hd⟩, fun b o e => keep _ _ (fun q => by rw [(hN _ q).1] at e; cases e) (F.keep b o e), F.above⟩
  · intro q hq
    rcases List.mem_append.mp hq with hq | hq
    · refine ⟨(fresh q hq).1, fun e => ?_, ?_⟩
      · rcases (fresh q hq).2 with z | z
        · obtain ⟨o, _, _, ho, _⟩ := F.ns
          rw [e, ho] at z; cases z
        · exact (hN _ z).2 e
      · rcases (fresh q hq).2 with z | z
        · cases y : h₀.get? q.1 with
          | none => rfl
          | some o => rw [F.keep _ _ y] at z; cases z
        · exact (hN _ z).1
    · have n := N q (List.mem_append_right _ hq)
      exact ⟨keep _ _ (off q hq) n.1, n.2⟩
  · intro q hq
    rcases (fresh q hq).2 with z | z
    · exact .inr fun p hp e => by have n := (N p hp).1; rw [e, z] at n; cases n
    · exact .inl z
theorem Does.use {α : Type} {prog : Program} {w : World} {A : Around} {W : List Addr} {t : Sem α} {s : Shared} {Φ : α → List (Addr × Obj) → Prop} {h₀ : Heap} {L : Addr} {m : Str → Option Value} {ws rest : List (Addr × Obj)} {Q : α → Shared → Prop} {E : Value → Shared → Prop}
    (D : Does prog w A W t s Φ) (F : Fr h₀ L s.heap m) (N : News h₀ L s.heap (ws ++ rest)) (hW : ∀ a ∈ W, ∃ o, (a, o) ∈ ws) (off : ∀ q ∈ rest, q.1 ∉ W)
    (k : ∀ r h' tk' tl, Fr h₀ L h' m → News h₀ L h' (tl ++ rest) → (∀ q ∈ tl, q.1 ∈ W ∨ ∀ p ∈ ws ++ rest, p.1 ≠ q.1) → Φ r tl → Q r { s with heap := h', toks := tk' }) :
    wpAny (model prog w) A t Q E s :=
  D Q E fun r h' tk' tl keep fresh φ => by
    obtain ⟨F', N', a⟩ := merge F N hW off keep fresh
    exact k r h' tk' tl F' N' a φ

/-- from the body's end: what a def's body leaves, as Does asks it -/
theorem leaveFresh {s : Shared} {g h' : Heap} {L : Addr} {m : Str → Option Value} {H tl : List (Addr × Obj)} (F : Fr g L h' m) (N : News g L h' tl)
    (up : ∀ b o, b ∉ H.map (·.1) → s.heap.get? b = some o → g.get? b = some o) :
    (∀ b o, b ∉ H.map (·.1) → s.heap.get? b = some o → h'.get? b = some o) ∧ Fresh s.heap (H.map (·.1)) h' tl := by
  refine ⟨fun b o hb e => F.keep _ _ (up b o hb e), fun q hq => ⟨(N q hq).1, ?_⟩⟩
  by_cases hm : q.1 ∈ H.map (·.1)
  · exact .inr hm
  · cases y : s.heap.get? q.1 with
    | none => exact .inl rfl
    | some o => have := up _ _ hm y; rw [(N q hq).2.2] at this; cases this

/-- a goal at which the walk waits -/
structure Stop (P : Prop) : Prop where
  out : P
theorem stop_here {P : Prop} (h : Stop P) : P := h.out
-- one row of objects within another
theorem sub_nil {α : Type} {l : List α} : ∀ q ∈ ([] : List α), q ∈ l := fun _ h => nomatch h
theorem sub_cons {α : Type} {a : α} {l l' : List α} (h : a ∈ l) (r : ∀ q ∈ l', q ∈ l) : ∀ q ∈ a :: l', q ∈ l := fun q hq => (List.mem_cons.mp hq).elim (fun e => e ▸ h) (r q)
theorem sub_app {α : Type} {a b l : List α} (h : ∀ q ∈ a, q ∈ l) (r : ∀ q ∈ b, q ∈ l) : ∀ q ∈ a ++ b, q ∈ l := fun q hq => (List.mem_append.mp hq).elim (h q) (r q)
theorem sub_self {α : Type} {l : List α} : ∀ q ∈ l, q ∈ l := fun _ h => h
theorem sub_tail {α : Type} {a : α} {x l : List α} (h : ∀ q ∈ x, q ∈ l) : ∀ q ∈ x, q ∈ a :: l := fun q hq => .tail _ (h q hq)
theorem sub_left {α : Type} {x l m : List α} (h : ∀ q ∈ x, q ∈ l) : ∀ q ∈ x, q ∈ l ++ m := fun q hq => List.mem_append_left _ (h q hq)
theorem sub_right {α : Type} {x l m : List α} (h : ∀ q ∈ x, q ∈ m) : ∀ q ∈ x, q ∈ l ++ m := fun q hq => List.mem_append_right _ (h q hq)
end
local macro_rules | `(tactic| walk_at "mine sub") => `(tactic| ((repeat (with_reducible refine sub_tail ?_)); first | (with_reducible exact sub_self) | ((with_reducible refine sub_left ?_); walk_at "mine sub") | ((with_reducible refine sub_right ?_); walk_at "mine sub")))
local macro_rules | `(tactic| walk_at "mine mem") => `(tactic| ((repeat (first | (with_reducible exact List.mem_cons_self) | (with_reducible refine List.mem_cons_of_mem _ ?_))); first | done | ((with_reducible refine List.mem_append_left _ ?_); walk_at "mine mem") | ((with_reducible refine List.mem_append_right _ ?_); walk_at "mine mem")))
local macro_rules | `(tactic| walk_at "mine subs") => `(tactic| ((repeat' (first | (with_reducible exact sub_nil) | (with_reducible refine sub_cons ?_ ?_) | (with_reducible refine sub_app ?_ ?_))); (all_goals (first | walk_at "mine sub" | walk_at "mine mem"))))
section
-- B1
/-- a node's own data -/
structure Nd where
  lvl : Int
  nm : Str
  us : Str
  rd : Str
  occ : Bool

noncomputable def Nd.Ok (n : Nd) : Prop := PyData.strOk n.nm = true ∧ PyData.strOk n.us = true ∧ PyData.strOk n.rd = true
theorem so0 : PyData.strOk (Str.ofString "") = true := by decide +kernel
theorem soI : PyData.strOk (Str.ofString "index") = true := by decide +kernel
theorem soA : PyData.strOk (Str.ofString "A") = true := by decide +kernel
theorem soR : PyData.strOk (Str.ofString "R") = true := by decide +kernel
/-- a forest with its addresses -/
inductive G where
  | nil
  | cons (x : Addr) (n : Nd) (kids rest : G)
noncomputable def G.tops : G → List Addr
  | .nil => []
  | .cons x _ _ r => x :: r.tops
noncomputable def G.addrs : G → List Addr
  | .nil => []
  | .cons x _ k r => x :: (k.addrs ++ r.addrs)

noncomputable def ent (P : Params) (x : Str) (t : Tok) (v : Value) : DictEntry := ⟨PyData.keyHash P x, .str x t, v⟩
noncomputable def nodeEs (P : Params) (tk : Nat → Tok) (n : Nd) (occ : Value) (cl kl : Addr) (par : Value) : List DictEntry :=
  [⟨PyData.keyHash P (Str.ofString "level"), .str (Str.ofString "level") (tk 0), .int n.lvl (tk 1)⟩,
   ⟨PyData.keyHash P (Str.ofString "name"), .str (Str.ofString "name") (tk 2), .str n.nm (tk 3)⟩,
   ⟨PyData.keyHash P (Str.ofString "picture_text"), .str (Str.ofString "picture_text") (tk 4), .none⟩,
   ⟨PyData.keyHash P (Str.ofString "usage"), .str (Str.ofString "usage") (tk 5), .str n.us (tk 6)⟩,
   ⟨PyData.keyHash P (Str.ofString "sign"), .str (Str.ofString "sign") (tk 7), .str (Str.ofString "") (tk 8)⟩,
   ⟨PyData.keyHash P (Str.ofString "is_separate"), .str (Str.ofString "is_separate") (tk 9), .bool false⟩,
   ⟨PyData.keyHash P (Str.ofString "occurs"), .str (Str.ofString "occurs") (tk 10), occ⟩,
   ⟨PyData.keyHash P (Str.ofString "redefines"), .str (Str.ofString "redefines") (tk 11), .str n.rd (tk 12)⟩,
   ⟨PyData.keyHash P (Str.ofString "value"), .str (Str.ofString "value") (tk 13), .none⟩,
   ⟨PyData.keyHash P (Str.ofString "is_justified"), .str (Str.ofString "is_justified") (tk 14), .bool false⟩,
   ⟨PyData.keyHash P (Str.ofString "is_blank_zero"), .str (Str.ofString "is_blank_zero") (tk 15), .bool false⟩,
   ⟨PyData.keyHash P (Str.ofString "conditions"), .str (Str.ofString "conditions") (tk 16), .ref cl⟩,
   ⟨PyData.keyHash P (Str.ofString "kids"), .str (Str.ofString "kids") (tk 17), .ref kl⟩,
   ⟨PyData.keyHash P (Str.ofString "parent"), .str (Str.ofString "parent") (tk 18), par⟩,
   ⟨PyData.keyHash P (Str.ofString "renames"), .str (Str.ofString "renames") (tk 19), .none⟩,
   ⟨PyData.keyHash P (Str.ofString "base"), .str (Str.ofString "base") (tk 20), .str (Str.ofString "") (tk 21)⟩,
   ⟨PyData.keyHash P (Str.ofString "offset"), .str (Str.ofString "offset") (tk 22), .int 0 (tk 23)⟩,
   ⟨PyData.keyHash P (Str.ofString "size"), .str (Str.ofString "size") (tk 24), .int 0 (tk 25)⟩,
   ⟨PyData.keyHash P (Str.ofString "shape"), .str (Str.ofString "shape") (tk 26), .none⟩]
theorem nodeEs_of (P : Params) (t0 t1 t2 t3 t4 t5 t6 t7 t8 t9 t10 t11 t12 t13 t14 t15 t16 t17 t18 t19 t20 t21 t22 t23 t24 t25 t26 : Tok) (lvl : Int) (nm us rd : Str) (b : Bool) (occ : Value) (cl kl : Addr) (par : Value) :
    [(⟨PyData.keyHash P (Str.ofString "level"), .str (Str.ofString "level") t0, .int lvl t1⟩ : DictEntry),
   ⟨PyData.keyHash P (Str.ofString "name"), .str (Str.ofString "name") t2, .str nm t3⟩,
   ⟨PyData.keyHash P (Str.ofString "picture_text"), .str (Str.ofString "picture_text") t4, .none⟩,
   ⟨PyData.keyHash P (Str.ofString "usage"), .str (Str.ofString "usage") t5, .str us t6⟩,
   ⟨PyData.keyHash P (Str.ofString "sign"), .str (Str.ofString "sign") t7, .str (Str.ofString "") t8⟩,
   ⟨PyData.keyHash P (Str.ofString "is_separate"), .str (Str.ofString "is_separate") t9, .bool false⟩,
   ⟨PyData.keyHash P (Str.ofString "occurs"), .str (Str.ofString "occurs") t10, occ⟩,
   ⟨PyData.keyHash P (Str.ofString "redefines"), .str (Str.ofString "redefines") t11, .str rd t12⟩,
   ⟨PyData.keyHash P (Str.ofString "value"), .str (Str.ofString "value") t13, .none⟩,
   ⟨PyData.keyHash P (Str.ofString "is_justified"), .str (Str.ofString "is_justified") t14, .bool false⟩,
   ⟨PyData.keyHash P (Str.ofString "is_blank_zero"), .str (Str.ofString "is_blank_zero") t15, .bool false⟩,
   ⟨PyData.keyHash P (Str.ofString "conditions"), .str (Str.ofString "conditions") t16, .ref cl⟩,
   ⟨PyData.keyHash P (Str.ofString "kids"), .str (Str.ofString "kids") t17, .ref kl⟩,
   ⟨PyData.keyHash P (Str.ofString "parent"), .str (Str.ofString "parent") t18, par⟩,
   ⟨PyData.keyHash P (Str.ofString "renames"), .str (Str.ofString "renames") t19, .none⟩,
   ⟨PyData.keyHash P (Str.ofString "base"), .str (Str.ofString "base") t20, .str (Str.ofString "") t21⟩,
   ⟨PyData.keyHash P (Str.ofString "offset"), .str (Str.ofString "offset") t22, .int 0 t23⟩,
   ⟨PyData.keyHash P (Str.ofString "size"), .str (Str.ofString "size") t24, .int 0 t25⟩,
   ⟨PyData.keyHash P (Str.ofString "shape"), .str (Str.ofString "shape") t26, .none⟩] =
   nodeEs P (fun i => [t0, t1, t2, t3, t4, t5, t6, t7, t8, t9, t10, t11, t12, t13, t14, t15, t16, t17, t18, t19, t20, t21, t22, t23, t24, t25, t26].getD i 0) ⟨lvl, nm, us, rd, b⟩ occ cl kl par := rfl

/-- Occurs(2, 2) -/
noncomputable def occEs (P : Params) (tk : Nat → Tok) : List DictEntry :=
  [⟨PyData.keyHash P (Str.ofString "low"), .str (Str.ofString "low") (tk 0), .int 2 (tk 1)⟩,
   ⟨PyData.keyHash P (Str.ofString "high"), .str (Str.ofString "high") (tk 2), .int 2 (tk 3)⟩,
   ⟨PyData.keyHash P (Str.ofString "depending"), .str (Str.ofString "depending") (tk 4), .none⟩,
   ⟨PyData.keyHash P (Str.ofString "keys"), .str (Str.ofString "keys") (tk 5), .ref 22⟩,
   ⟨PyData.keyHash P (Str.ofString "indexes"), .str (Str.ofString "indexes") (tk 6), .ref 23⟩]
theorem occEs_of (P : Params) (t0 t1 t2 t3 t4 t5 t6 : Tok) :
  [(⟨PyData.keyHash P (Str.ofString "low"), .str (Str.ofString "low") t0, .int 2 t1⟩ : DictEntry),
   ⟨PyData.keyHash P (Str.ofString "high"), .str (Str.ofString "high") t2, .int 2 t3⟩,
   ⟨PyData.keyHash P (Str.ofString "depending"), .str (Str.ofString "depending") t4, .none⟩,
   ⟨PyData.keyHash P (Str.ofString "keys"), .str (Str.ofString "keys") t5, .ref 22⟩,
   ⟨PyData.keyHash P (Str.ofString "indexes"), .str (Str.ofString "indexes") t6, .ref 23⟩] = occEs P (fun i => [t0, t1, t2, t3, t4, t5, t6].getD i 0) := rfl

noncomputable def OccR (has : Addr → Obj → Prop) (P : Params) (b : Bool) (v : Value) : Prop :=
  if b = true then ∃ o od tk en, v = .ref o ∧ has o (instObj 41 od) ∧ has od (dictOf (occEs P tk) en) else v = .none
/-- one node as it lies -/
inductive NodeR (has : Addr → Obj → Prop) (P : Params) (par : Value) (x : Addr) (n : Nd) (tops : List Addr) : Prop
  | mk : ∀ dx kl cl tk occ en kn cn, (has x (instObj 88 dx)) → (has dx (dictOf (nodeEs P tk n occ cl kl par) en)) → (has cl (listOf #[] cn)) → (has kl (listOf (tops.map Value.ref).toArray kn)) → (OccR has P n.occ occ) → NodeR has P par x n tops
/-- a forest as it lies, its parent par -/
noncomputable def KidsR (has : Addr → Obj → Prop) (P : Params) : Value → G → Prop
  | _, .nil => True
  | par, .cons x n k r => NodeR has P par x n k.tops ∧ KidsR has P (.ref x) k ∧ KidsR has P par r

theorem OccR.mono {has has' : Addr → Obj → Prop} {P : Params} {b : Bool} {v : Value} (h : OccR has P b v) (k : ∀ a o, has a o → has' a o) : OccR has' P b v := by
  unfold OccR at h ⊢
  split at h
  · rename_i e
    rw [if_pos e]
    obtain ⟨o, od, tk, en, h1, h2, h3⟩ := h
    exact ⟨o, od, tk, en, h1, k _ _ h2, k _ _ h3⟩
  · rename_i e
    rw [if_neg e]
    exact h
theorem NodeR.mono {has has' : Addr → Obj → Prop} {P : Params} {par : Value} {x : Addr} {n : Nd} {tops : List Addr} (h : NodeR has P par x n tops) (k : ∀ a o, has a o → has' a o) : NodeR has' P par x n tops := by
  obtain ⟨dx, kl, cl, tk, occ, en, kn, cn, h1, h2, h3, h4, h5⟩ := h
  exact ⟨dx, kl, cl, tk, occ, en, kn, cn, k _ _ h1, k _ _ h2, k _ _ h3, k _ _ h4, h5.mono k⟩
theorem KidsR.mono {has has' : Addr → Obj → Prop} {P : Params} : ∀ {g : G} {par : Value}, KidsR has P par g → (∀ a o, has a o → has' a o) → KidsR has' P par g
  | .nil, _, _, _ => trivial
  | .cons _ _ _ _, _, h, k => ⟨h.1.mono k, h.2.1.mono k, h.2.2.mono k⟩

theorem enterC {prog : Program} {w : World} {A : Around} {R : Result → Shared → Prop} {s : Shared} {hB : Heap} {p : Program} {loose : List Str} {mean : ExcName → Option Value} {mg mb : Str → Option Value}
    {K : Frag} {f : Addr} {args : Args} {binds : List (Str × Value)} {name qual : Str} {params : Arguments} {body : List Stmt} {scope : Scope} {dV kV doc pm cdv ct oc : Value} {an od : Option Addr} {osl : Array (Option Value)} {H : List (Addr × Obj)}
    (X : K.In hB) (T : Top p loose mean mg mb hB) (st : hB.StaysIn s.heap) (hH : ∀ q ∈ H, s.heap.get? q.1 = some q.2 ∧ hB.get? q.1 = none)
    (hroom : A.depth < recursionLimit)
    (ho : K.lookup f = some ⟨oc, od, .func (fnOf name qual params body scope dV kV doc pm an cdv ct), osl⟩) (hcd : codeIn K cdv qual = true)
    (hbind : BindsTo s (fnOf name qual params body scope dV kV doc pm an cdv ct) args binds) (hloc : ∀ y ∈ binds, scope.names.lookup y.1 = some .local) {rb : List (Str × Value)} (hrb : binds.reverse = rb)
    (h : ∀ g L' h₁, Fr g L' h₁ (fun y => rb.lookup y) → News g L' h₁ H → K.In g → Top p loose mean mg mb g → hB.StaysIn g →
      (∀ b o, b ∉ H.map (·.1) → s.heap.get? b = some o → g.get? b = some o) → g.StaysIn s.heap →
      wpAny (model prog w) (A.deeper (envOf qual scope L' f cdv)) (execs body (envOf qual scope L' f cdv))
        (fun fl s' => R (.ok (.ret (match fl with | .ret v => v | _ => .none))) s') (fun _ _ => False) { s with heap := h₁, toks := s.toks + binds.length })
    (hco : scope.isCoroutine = false) (hgen : scope.isGenerator = false) (hk : scope.kind = .function)
    (hcell : ∀ x ∈ scope.names, x.2 ≠ .cell) :
    codeAny (model prog w) A (.call (.ref f) args) R s := by
  subst hrb
  refine codeAny_call_def (fd := fnOf name qual params body scope dV kV doc pm an cdv ct) (body := body) (binds := binds) hroom (st _ _ (X _ _ ho)) rfl (T.nolimit.keeps st) (codeRec_of (X.keeps st) hcd) rfl hbind hcell hloc (fun h₁ hns hk₁ => ?_) hco hgen hk
  have nm : ∀ b o, hB.get? b = some o → b ∉ H.map (·.1) := fun b o e q => by
    obtain ⟨p, hp, rfl⟩ := List.mem_map.mp q
    rw [(hH p hp).2] at e; cases e
  have st' : hB.StaysIn (hideAll s.heap (H.map (·.1))) := fun b o e => hideAll_get _ (st b o e) (nm b o e)
  refine wpAny_mono (h (hideAll s.heap (H.map (·.1))) s.heap.objs.size h₁ ⟨hns, fun b o e => hk₁ b o (of_hideAll _ e), Nat.le_of_eq (hideAll_size _ _)⟩
    (fun q hq => ⟨hk₁ _ _ (hH q hq).1, Nat.ne_of_lt (Heap.lt_size (hH q hq).1), hideAll_none _ (List.mem_map_of_mem hq)⟩) (X.keeps fun b o e => st' b o e) (T.keeps fun b o e => st' b o e) st'
    (fun b o hb e => hideAll_get _ e hb) (fun b o e => of_hideAll _ e)) (fun fl s' hl => hl) (fun _ _ e => e.elim)

theorem fillK : ∀ P : Params, (hd.heap_39 P) = hd.heap_39 P ∧ PySem.Challenge.rw_og0075_01 = PySem.Challenge.rw_og0075_01 := by
  k_fill
  intro P; exact ⟨rfl, rfl⟩

theorem item_new {prog : Program} {w : World} {A : Around} {E : Value → Shared → Prop} {Q : Value → Shared → Prop} {s : Shared} {h₀ : Heap} {L : Addr} {m : Str → Option Value} {news : List (Addr × Obj)} {p : Program} {loose : List Str} {mean : ExcName → Option Value} {mg mb : Str → Option Value}
    {lvl : Int} {nm : Str} {t u : Tok}
    (F : Fr h₀ L s.heap m) (X : (hd.heap_39 w.params).In h₀) (T : Top p loose mean mg mb h₀) (N : News h₀ L s.heap news) (hd : A.depth + 2 < recursionLimit)
    (k : ∀ x dx cl kl h' tk' tk en, Fr h₀ L h' m → News h₀ L h' ((kl, listOf #[] 0) :: (cl, listOf #[] 0) :: (x, instObj 88 dx) :: (dx, dictOf (nodeEs w.params tk ⟨lvl, nm, Str.ofString "", Str.ofString "", false⟩ .none cl kl .none) en) :: news) → (∀ q ∈ news, q.1 < dx) → dx < x → x < cl → cl < kl →
      Q (.ref x) { s with heap := h', toks := tk' }) :
    wpAny (model prog w) A (call (.ref 88) [.int lvl t, .str nm u]) Q E s := by
  k_dflt (refine' call_cls F X N ?k4 ?k5 ?k6 ?_; (case k4 => k_is); (case k5 => k_is); (case k6 => k_is); k_whole)
  intro x dx h' F' N' l1 l2
  refine' enterC (H := [(x, instObj 88 dx), (dx, dictOf [] 0)]) X T (fun b o e => F'.keep b o e) ?hH ?room ?ho ?hcd ?hb ?hl ?hr ?_ ?c2 ?c3 ?c4 ?c5
  case hH =>
    intro q hq
    rcases List.mem_cons.mp hq with rfl | hq
    · exact ⟨(N' _ (.head _)).1, (N' _ (.head _)).2.2⟩
    · rw [List.mem_singleton.mp hq]
      exact ⟨(N' _ (.tail _ (.head _))).1, (N' _ (.tail _ (.head _))).2.2⟩
  case room => show A.depth + 1 < recursionLimit; omega
  case ho => k_is
  case hcd => k_is
  case hb => exact BindsTo.of_eq (binds := [(Str.ofString "self", .ref x), (Str.ofString "level", .int lvl t), (Str.ofString "name", .str nm u)]) rfl
  case hr => exact rfl
  case hl => exact locs rfl
  case c2 => exact rfl
  case c3 => exact rfl
  case c4 => exact rfl
  case c5 => decide
  intro g L' h₁ F1 N1 X1 T1 st' up dn
  k_fold
  k_lt2 l2
  k_steps
  rename Fr g L' _ _ => F2
  rename News g L' _ _ => N2
  rw [nodeEs_of (b := false)] at N2
  refine ⟨rfl, ?_⟩
  obtain ⟨e1, e2⟩ := leaveFresh F2 N2 up
  obtain ⟨F3, N3, a3⟩ := merge (ws := [(x, instObj 88 dx), (dx, dictOf [] 0)]) (rest := news) F' N' (by
      intro a ha
      simp only [List.map_cons, List.map_nil, List.mem_cons, List.not_mem_nil, or_false] at ha
      rcases ha with rfl | rfl
      · exact ⟨_, .head _⟩
      · exact ⟨_, .tail _ (.head _)⟩) (by
      intro q hq ha
      have := l1 q hq
      simp only [List.map_cons, List.map_nil, List.mem_cons, List.not_mem_nil, or_false] at ha
      have l2' : @LT.lt Nat _ dx x := l2
      have l1' : @LT.lt Nat _ q.1 dx := this
      rcases ha with e | e
      · have e' : @Eq Nat q.1 x := e
        omega
      · have e' : @Eq Nat q.1 dx := e
        omega) e1 e2
  exact k x dx _ _ _ _ _ _ F3 N3 l1 l2 (by first | assumption | exact And.left (by assumption)) (by first | assumption | exact And.left (by assumption))
end
section
-- B2
theorem fillK2 : ∀ P : Params, (hd.heap_39 P) = hd.heap_39 P ∧ PySem.Challenge.rw_og0075_01 = PySem.Challenge.rw_og0075_01 := by
  k_fill
  intro P; exact ⟨rfl, rfl⟩

noncomputable def PoolOk (vs : List Value) : Prop := vs.length ≤ 24 ∧ ∀ v ∈ vs, ∃ i t, v = Value.int i t ∧ 0 ≤ i ∧ i < 10 ^ 80

theorem len_of {prog : Program} {w : World} {A : Around} {E : Value → Shared → Prop} {s : Shared} {h₀ : Heap} {L D : Addr} {news : List (Addr × Obj)} {vs : List Value} {n : Nat} {Q : Value → Shared → Prop} (N : News h₀ L s.heap news) (hm : (D, listOf vs.toArray n) ∈ news) (hz : vs.length < 2 ^ 24)
    (h : Q (.int vs.length (s.toks + 1)) { s with toks := s.toks + 1 + 1 }) : wpAny (model prog w) A (call (.builtin "len") [.ref D]) Q E s :=
  call_len_list (N.isList hm) (by simp only [List.size_toArray]; omega) (by simpa only [List.size_toArray] using h)

theorem take_ {prog : Program} {w : World} {A : Around} {s : Shared} {hB : Heap} {p : Program} {loose : List Str} {mean : ExcName → Option Value} {mg mb : Str → Option Value}
   {P : Addr} {n : Nat} {many : Int} {t : Tok} {vs : List Value}
   (X : (hd.heap_39 w.params).In hB) (T : Top p loose mean mg mb hB) (st : hB.StaysIn s.heap) (hP : s.heap.get? P = some (listOf vs.toArray n)) (hP0 : hB.get? P = none) (ok : PoolOk vs)
   (hm : 2 ≤ many ∧ many ≤ 9) (hd : A.depth < recursionLimit) :
   Does prog w A [P] (call (.ref 144) [.ref P, .int many t]) s (fun r tl => ∃ d t' vs' n', r = .int d t' ∧ 0 ≤ d ∧ d < many ∧ PoolOk vs' ∧ tl = [(P, listOf vs'.toArray n')]) := by
  intro Q E k
  have hH : ∀ q ∈ [(P, listOf vs.toArray n)], s.heap.get? q.1 = some q.2 ∧ hB.get? q.1 = none := by
    intro q hq; rw [List.mem_singleton.mp hq]; exact ⟨hP, hP0⟩
  refine' enterF (binds := [(Str.ofString "pool", .ref P), (Str.ofString "many", .int many t)]) (rb := [(Str.ofString "many", .int many t), (Str.ofString "pool", .ref P)]) X T st hH hd ?ho ?hcd ?hb ?hl ?hr ?_ ?c2 ?c3 ?c4 ?c5
  case ho => k_is
  case hcd => k_is
  case hb => exact BindsTo.of_eq rfl
  case hl => exact locs rfl
  case hr => exact rfl
  case c2 => exact rfl
  case c3 => exact rfl
  case c4 => exact rfl
  case c5 => decide
  intro g L' h₁ F1 N1 X1 T1 st1 up dn
  cases vs with
  | nil =>
    try k_fold
    k_steps
    refine k _ _ _ _ (leaveFresh F1 N1 up).1 (leaveFresh F1 N1 up).2 ⟨_, _, [], _, rfl, Int.le_refl _, by omega, ok, rfl⟩
  | cons v vs =>
    obtain ⟨i, u, rfl, hi0, hi1⟩ := ok.2 v (.head _)
    have hz : vs.length < 24 := by have := ok.1; simp only [List.length_cons] at this; omega
    have ok' : PoolOk vs := ⟨by omega, fun v hv => ok.2 v (.tail _ hv)⟩
    have hmod : 0 ≤ i.fmod many ∧ i.fmod many < many := ⟨fmod_lo _ (by omega), fmod_hi _ (by omega)⟩
    try k_fold
    k_steps
    refine len_of N1 (.head _) (by simp only [List.length_cons]; omega) ?_
    k_steps
    · exfalso; simp only [List.length_cons] at *; omega
    · k_dflt (refine' kl_popAt ?F ?N ?f ?k ?e ?U ?z ?_; (case F => k_asm); (case N => k_asm); (case U => k_upd); (case f => rfl); (case k => (show seqIndex? 0 _ = some 0; simp [seqIndex?])); (case e => rfl); (case z => (rw [sizeLine_eq]; simp only [List.length_cons]; omega)))
      kl_rest
      k_steps
      rename Fr g L' _ _ => F2
      rename News g L' _ _ => N2
      exact k _ _ _ _ (leaveFresh F2 N2 up).1 (leaveFresh F2 N2 up).2 ⟨_, _, _, _, rfl, hmod.1, hmod.2, ok', rfl⟩
    · rename Fr g L' _ _ => F2
      rename News g L' _ _ => N2
      refine k _ _ _ _ (leaveFresh F2 N2 up).1 (leaveFresh F2 N2 up).2 ⟨_, _, _, _, rfl, hmod.1, hmod.2, ?_, rfl⟩
      refine ⟨ok.1, fun v hv => ?_⟩
      rcases List.mem_cons.mp hv with rfl | hv
      · have := fdiv_fmod_facts i many
        have h0 : 0 ≤ i.fdiv many := Int.fdiv_nonneg hi0 (by omega)
        have h1 : i.fdiv many ≤ i.fdiv many * many := by
          have := Int.mul_le_mul_of_nonneg_left (a := 1) (b := many) (c := i.fdiv many) (by omega) h0
          omega
        exact ⟨_, _, rfl, h0, by omega⟩
      · exact ok'.2 v hv
end
section
-- B3
theorem fillK3 : ∀ P : Params, (hd.heap_39 P) = hd.heap_39 P ∧ PySem.Challenge.rw_og0075_01 = PySem.Challenge.rw_og0075_01 := by
  k_fill
  intro P; exact ⟨rfl, rfl⟩

theorem occ_new {prog : Program} {w : World} {A : Around} {E : Value → Shared → Prop} {Q : Value → Shared → Prop} {s : Shared} {h₀ : Heap} {L : Addr} {m : Str → Option Value} {news : List (Addr × Obj)} {p : Program} {loose : List Str} {mean : ExcName → Option Value} {mg mb : Str → Option Value}
    {t u : Tok}
    (F : Fr h₀ L s.heap m) (X : (hd.heap_39 w.params).In h₀) (T : Top p loose mean mg mb h₀) (N : News h₀ L s.heap news) (hd : A.depth + 2 < recursionLimit)
    (k : ∀ x dx h' tk' tk en, Fr h₀ L h' m → News h₀ L h' ((x, instObj 41 dx) :: (dx, dictOf (occEs w.params tk) en) :: news) → (∀ q ∈ news, @LT.lt Nat _ q.1 dx) → @LT.lt Nat _ dx x →
      Q (.ref x) { s with heap := h', toks := tk' }) :
    wpAny (model prog w) A (call (.ref 41) [.int 2 t, .int 2 u]) Q E s := by
  k_dflt (refine' call_cls F X N ?k4 ?k5 ?k6 ?_; (case k4 => k_is); (case k5 => k_is); (case k6 => k_is); k_whole)
  intro x dx h' F' N' l1 l2
  have hH : ∀ q ∈ [(x, instObj 41 dx), (dx, dictOf [] 0)], h'.get? q.1 = some q.2 ∧ h₀.get? q.1 = none := by
    intro q hq
    rcases List.mem_cons.mp hq with rfl | hq
    · exact ⟨(N' _ (.head _)).1, (N' _ (.head _)).2.2⟩
    · rw [List.mem_singleton.mp hq]
      exact ⟨(N' _ (.tail _ (.head _))).1, (N' _ (.tail _ (.head _))).2.2⟩
  have room : (A.under (.builtin "type.__call__" ⟨[.ref 41, .int 2 t, .int 2 u], []⟩)).depth < recursionLimit := by show A.depth + 1 < recursionLimit; omega
  have st : h₀.StaysIn h' := fun b o e => F'.keep b o e
  refine' enterC (binds := [(Str.ofString "self", .ref x), (Str.ofString "low", .int 2 t), (Str.ofString "high", .int 2 u), (Str.ofString "depending", .none), (Str.ofString "keys", .ref 22), (Str.ofString "indexes", .ref 23)]) (rb := [(Str.ofString "indexes", .ref 23), (Str.ofString "keys", .ref 22), (Str.ofString "depending", .none), (Str.ofString "high", .int 2 u), (Str.ofString "low", .int 2 t), (Str.ofString "self", .ref x)]) X T st hH room ?ho ?hcd ?hb ?hl ?hr ?_ ?c2 ?c3 ?c4 ?c5
  case ho => k_is
  case hcd => k_is
  case hb => k_dflt (exact binds_K (by k_in) rfl (by k_is) rfl rfl rfl)
  case hl => exact locs rfl
  case hr => exact rfl
  case c2 => exact rfl
  case c3 => exact rfl
  case c4 => exact rfl
  case c5 => decide
  intro g L' h₁ F1 N1 X1 T1 st' up dn
  try k_fold
  k_lt2 l2
  k_steps
  rename Fr g L' _ _ => F2
  k_dflt (refine call_tuple_tup (tupK (l := []) (X1.keeps F2.keep) (by k_is)) ?_)
  k_steps
  rename Fr g L' _ _ => F2
  k_dflt (refine call_tuple_tup (tupK (l := []) (X1.keeps F2.keep) (by k_is)) ?_)
  k_steps
  rename Fr g L' _ _ => F2
  rename News g L' _ _ => N2
  rw [occEs_of] at N2
  refine ⟨rfl, ?_⟩
  obtain ⟨e1, e2⟩ := leaveFresh F2 N2 up
  obtain ⟨F3, N3, a3⟩ := merge (ws := [(x, instObj 41 dx), (dx, dictOf [] 0)]) (rest := news) F' N' (by
      intro a ha
      simp only [List.map_cons, List.map_nil, List.mem_cons, List.not_mem_nil, or_false] at ha
      rcases ha with rfl | rfl
      · exact ⟨_, .head _⟩
      · exact ⟨_, .tail _ (.head _)⟩) (by
      intro q hq ha
      have := l1 q hq
      simp only [List.map_cons, List.map_nil, List.mem_cons, List.not_mem_nil, or_false] at ha
      have l2' : @LT.lt Nat _ dx x := l2
      have l1' : @LT.lt Nat _ q.1 dx := this
      rcases ha with e | e
      · have e' : @Eq Nat q.1 x := e
        omega
      · have e' : @Eq Nat q.1 dx := e
        omega) e1 e2
  exact k x dx _ _ _ _ F3 N3 l1 l2
end
section
-- B4
theorem fillK4 : ∀ P : Params, (hd.heap_39 P) = hd.heap_39 P ∧ PySem.Challenge.rw_og0075_01 = PySem.Challenge.rw_og0075_01 := by
  k_fill
  intro P; exact ⟨rfl, rfl⟩

noncomputable def BackTo (Q : Value → Shared → Prop) (E : Value → Shared → Prop) (r : Result) (s : Shared) : Prop := match r with
  | .ok (.ret v) => Q v s
  | .ok _ => False
  | .error e => E e s

theorem callK {prog : Program} {w : World} {A : Around} {E : Value → Shared → Prop} {Q : Value → Shared → Prop} {s : Shared} {h₀ : Heap} {L : Addr} {m : Str → Option Value} {news : List (Addr × Obj)} {p : Program} {loose : List Str} {mean : ExcName → Option Value} {mg mb : Str → Option Value}
    {K : Frag} {f : Addr} {pos : List Value} {kw : List (Str × Value)} {binds : List (Str × Value)} {name qual : Str} {params : Arguments} {body : List Stmt} {scope : Scope} {dV kV doc pm cdv ct oc : Value} {an od : Option Addr} {osl : Array (Option Value)}
    (F : Fr h₀ L s.heap m) (X : K.In h₀) (N : News h₀ L s.heap news) (T : Top p loose mean mg mb h₀)
    (hroom : A.depth < recursionLimit)
    (ho : K.lookup f = some ⟨oc, od, .func (fnOf name qual params body scope dV kV doc pm an cdv ct), osl⟩) (hcd : codeIn K cdv qual = true)
    (hbind : BindsTo s (fnOf name qual params body scope dV kV doc pm an cdv ct) ⟨pos, kw⟩ binds) (hloc : ∀ y ∈ binds, scope.names.lookup y.1 = some .local) {rb : List (Str × Value)} (hrb : binds.reverse = rb)
    (h : ∀ g L' h₁, Fr g L' h₁ (fun y => rb.lookup y) → News g L' h₁ news → K.In g → Top p loose mean mg mb g → h₀.StaysIn g →
      wpAny (model prog w) (A.deeper (envOf qual scope L' f cdv)) (execs body (envOf qual scope L' f cdv))
        (fun fl s' => LeaveK h₀ L m g (BackTo Q E) (match fl with | .ret v => v | _ => .none) s') (fun _ _ => False) { s with heap := h₁, toks := s.toks + binds.length })
    (hco : scope.isCoroutine = false) (hgen : scope.isGenerator = false) (hk : scope.kind = .function)
    (hcell : ∀ x ∈ scope.names, x.2 ≠ .cell) :
    wpAny (model prog w) A (call (.ref f) pos kw) Q E s := by
  refine wpAny_call (enterC (R := fun r s' => match r with | .ok (.ret v) => Q v s' | .ok _ => False | .error e => E e s') (H := news) X T (fun b o e => F.keep b o e) (fun q hq => ⟨(N q hq).1, (N q hq).2.2⟩) hroom ho hcd hbind hloc hrb (fun g L' h₁ F1 N1 X1 T1 st up dn => ?_) hco hgen hk hcell)
  refine wpAny_mono (h g L' h₁ F1 N1 X1 T1 st) (fun fl s' hl => ?_) fun _ _ e => e
  obtain ⟨L2, m2, news2, F2, N2, kk⟩ := hl
  obtain ⟨oL, es, ep, hL, hd⟩ := F.ns
  have nL : L ∉ news.map (·.1) := fun q => by
    obtain ⟨p, hp, e⟩ := List.mem_map.mp q
    exact (N p hp).2.1 e
  have hLg := up L oL nL hL
  refine kk ⟨⟨oL, es, ep, F2.keep L oL hLg, hd⟩, fun b o e => F2.keep b o (st b o e), F.above⟩ fun q hq => ⟨(N2 q hq).1, fun e => ?_, ?_⟩
  · have := (N2 q hq).2.2; rw [e, hLg] at this; cases this
  · cases y : h₀.get? q.1 with
    | none => rfl
    | some o => have := (N2 q hq).2.2; rw [st _ _ y] at this; cases this


theorem put_parent (P : Params) (hsh : Int) (tk : Nat → Tok) (n : Nd) (occ : Value) (cl kl : Addr) (par v : Value) (t : Tok) (en : Nat) :
    (putL (Str.ofString "parent") hsh (.str (Str.ofString "parent") t) v (nodeEs P tk n occ cl kl par), putN (Str.ofString "parent") (nodeEs P tk n occ cl kl par) en) = (nodeEs P tk n occ cl kl v, en) := by rfl
theorem put_occurs (P : Params) (hsh : Int) (tk : Nat → Tok) (n : Nd) (occ : Value) (cl kl : Addr) (par v : Value) (t : Tok) (en : Nat) :
    (putL (Str.ofString "occurs") hsh (.str (Str.ofString "occurs") t) v (nodeEs P tk n occ cl kl par), putN (Str.ofString "occurs") (nodeEs P tk n occ cl kl par) en) = (nodeEs P tk { n with occ := true } v cl kl par, en) := by rfl
theorem put_redefines (P : Params) (hsh : Int) (tk : Nat → Tok) (n : Nd) (occ : Value) (cl kl : Addr) (par : Value) (x : Str) (t u : Tok) (en : Nat) :
    (putL (Str.ofString "redefines") hsh (.str (Str.ofString "redefines") t) (.str x u) (nodeEs P tk n occ cl kl par), putN (Str.ofString "redefines") (nodeEs P tk n occ cl kl par) en) = (nodeEs P (fun i => if i = 12 then u else tk i) { n with rd := x } occ cl kl par, en) := by rfl
theorem put_usage (P : Params) (hsh : Int) (tk : Nat → Tok) (n : Nd) (occ : Value) (cl kl : Addr) (par : Value) (x : Str) (t u : Tok) (en : Nat) :
    (putL (Str.ofString "usage") hsh (.str (Str.ofString "usage") t) (.str x u) (nodeEs P tk n occ cl kl par), putN (Str.ofString "usage") (nodeEs P tk n occ cl kl par) en) = (nodeEs P (fun i => if i = 6 then u else tk i) { n with us := x } occ cl kl par, en) := by rfl
theorem put_level (P : Params) (hsh : Int) (tk : Nat → Tok) (n : Nd) (occ : Value) (cl kl : Addr) (par : Value) (x : Int) (t u : Tok) (en : Nat) :
    (putL (Str.ofString "level") hsh (.str (Str.ofString "level") t) (.int x u) (nodeEs P tk n occ cl kl par), putN (Str.ofString "level") (nodeEs P tk n occ cl kl par) en) = (nodeEs P (fun i => if i = 1 then u else tk i) { n with lvl := x } occ cl kl par, en) := by rfl
end
section
local macro_rules | `(tactic| k_all) => `(tactic| assumption)
local macro_rules | `(tactic| walk_at "setAttr ref") => `(tactic| (k_here; k_dflt (refine' set_dict ?k1 ?k2 ?k3 ?k4 ?k5 ?k6 ?k7 ?k8 ?k9 ?k10 ?k11 ?k12 ?k13 ?_; (case k1 => k_asm); (case k2 => k_asm); (case k3 => k_asm); (case k4 => k_inst); (case k5 => exact rfl); (case k6 => k_is); (case k7 => k_is); (case k8 => k_is); (case k9 => k_is); (case k10 => k_get); (case k11 => first | exact put_parent _ _ _ _ _ _ _ _ _ _ _ | exact put_occurs _ _ _ _ _ _ _ _ _ _ _ | exact put_redefines _ _ _ _ _ _ _ _ _ _ _ _ | exact put_usage _ _ _ _ _ _ _ _ _ _ _ _ | exact put_level _ _ _ _ _ _ _ _ _ _ _ _); (case k12 => k_upd); (case k13 => exact Nat.le_of_ble_eq_true rfl); k_whole; intro h' F' N'; (try k_sweep))))
section
local macro_rules | `(tactic| walk_at "call ref") => `(tactic| (k_here; k_dflt (refine' callK ?k1 ?k2 ?k4 ?k5 ?k8 ?k6 ?k7 ?k9 ?kB ?kR ?_ ?c2 ?c3 ?c4 ?c5; (case k1 => k_asm); (case k2 => k_asm); (case k4 => k_asm); (case k5 => k_asm); (case k6 => k_is); (case k7 => k_is); (case k8 => ((try simp only [depth_under_make, depth_under_kw, depth_in1, depth_deeper, depth_caller]); omega)); (case k9 => first | exact BindsTo.of_eq rfl | exact binds_K (by k_in) rfl (by k_is) rfl rfl rfl | fail "k_enter: no rule for these arguments"); (case c5 => decide); (case kB => exact locs rfl); (case kR => exact rfl); (case c2 => exact rfl); (case c3 => exact rfl); (case c4 => exact rfl); k_whole; intro g' L' h' F' N' X' T' S'; (try dsimp only); (try k_fold))))
theorem add_ {prog : Program} {w : World} {A : Around} {E : Value → Shared → Prop} {Q : Value → Shared → Prop} {s : Shared} {h₀ : Heap} {L : Addr} {m : Str → Option Value} {p : Program} {loose : List Str} {mean : ExcName → Option Value} {mg mb : Str → Option Value}
    {x y dx dy cl kl cl' kl' : Addr} {tk tk' : Nat → Tok} {n n' : Nd} {occ occ' par : Value} {en en' kn : Nat} {its : Array Value} {rest : List (Addr × Obj)}
    (F : Fr h₀ L s.heap m) (X : (hd.heap_39 w.params).In h₀) (T : Top p loose mean mg mb h₀) (hd : A.depth + 2 < recursionLimit)
    (N : News h₀ L s.heap ((x, instObj 88 dx) :: (dx, dictOf (nodeEs w.params tk n occ cl kl par) en) :: (kl, listOf its kn) :: (y, instObj 88 dy) :: (dy, dictOf (nodeEs w.params tk' n' occ' cl' kl' .none) en') :: rest))
    (hs : its.size < 24) (e1 : @Ne Nat dy x) (e2 : @Ne Nat dy dx) (e3 : @Ne Nat dy kl) (e4 : @Ne Nat dy y) (e5 : ∀ q ∈ rest, q.1 ≠ dy) (f1 : @Ne Nat kl x) (f2 : @Ne Nat kl dx) (f3 : @Ne Nat kl y) (f4 : ∀ q ∈ rest, q.1 ≠ kl)
    (k : ∀ h' tk2, Fr h₀ L h' m → News h₀ L h' ((x, instObj 88 dx) :: (dx, dictOf (nodeEs w.params tk n occ cl kl par) en) :: (kl, listOf (its.push (.ref y)) (kn + 1)) :: (y, instObj 88 dy) :: (dy, dictOf (nodeEs w.params tk' n' occ' cl' kl' (.ref x)) en') :: rest) → Q .none { s with heap := h', toks := tk2 }) :
    wpAny (model prog w) A (call (.ref 66) [.ref x, .ref y]) Q E s := by
  k_steps
  rename Fr h₀ L _ m => F9
  rename News h₀ L _ _ => N9
  exact k _ _ F9 N9
end
section
-- B5
/-- what a turn leaves -/
inductive TurnOk (h₀ : Heap) (L : Addr) (J : Addr) (own : List (Addr × Obj)) (I : (Str → Option Value) → List (Addr × Obj) → Prop) (s₁ s₂ : Shared) : Prop
  | mk : ∀ (h' : Heap) (tk : Nat) (m' : Str → Option Value) (news' : List (Addr × Obj)), (s₂ = { s₁ with heap := h', toks := tk }) → (Fr h₀ L h' m') → (News h₀ L h' (own ++ news')) → ((∀ p ∈ news', p.1 ≠ J)) → (I m' news') → TurnOk h₀ L J own I s₁ s₂
noncomputable def TurnEnds (h₀ : Heap) (L : Addr) (J : Addr) (own : List (Addr × Obj)) (I : (Str → Option Value) → List (Addr × Obj) → Prop) (s₁ : Shared) (Q : Flow → Shared → Prop) (f : Flow) (s₂ : Shared) : Prop :=
  match f with
  | .ret v => Q (.ret v) s₂
  | .brk => Q .next s₂
  | _ => Stop (TurnOk h₀ L J own I s₁ s₂)

section
variable {prog : Program} {w : World} {A : Around} {E : Value → Shared → Prop} {s : Shared} {env : Env} {h₀ : Heap} {x : Str} {body : List Stmt} {Q : Flow → Shared → Prop}

theorem News.sub {h₀ h : Heap} {L : Addr} {l l' : List (Addr × Obj)} (N : News h₀ L h l) (k : ∀ p ∈ l', p ∈ l) : News h₀ L h l' := fun p hp => N p (k p hp)

theorem for_at {J : Addr} {fp : List Addr} {n : Nat} {P : Nat → Value → Prop} {St : Nat → Heap → Prop} {m₀ : Str → Option Value} {news keep : List (Addr × Obj)} (I : Nat → (Str → Option Value) → List (Addr × Obj) → Prop)
    (W : Walks prog w A J fp [J] n P St) (hJf : J ∈ fp) (hfp : ∀ b ∈ fp, b = J ∨ (∃ q, h₀.get? b = some q) ∨ ∃ o, (b, o) ∈ keep) (hob : ∀ i h, St i h → ∃ o, h.get? J = some o)
    (hkJ : ∀ p ∈ keep, p.1 ≠ J)
    (hLf : env.locals ∉ fp) (hJ0 : h₀.get? J = none) (hnw : ∀ p ∈ news, p.1 ≠ J) (hst : St 0 s.heap) (F : Fr h₀ env.locals s.heap m₀) (N : News h₀ env.locals s.heap (keep ++ news)) (h0 : I 0 m₀ news)
    (turn : ∀ i v m₁ news₁ h tk o, i < n → P i v → I i m₁ news₁ → (∀ p ∈ news₁, p.1 ≠ J) → Fr h₀ env.locals h (fun y => if y = x then some v else m₁ y) → News h₀ env.locals h ((J, o) :: keep ++ news₁) →
      wpAny (model prog w) A (execs body env) (TurnEnds h₀ env.locals J ((J, o) :: keep) (I (i + 1)) { s with heap := h, toks := tk } Q) E { s with heap := h, toks := tk })
    (done : ∀ m₁ news₁ h tk, I n m₁ news₁ → Fr h₀ env.locals h m₁ → News h₀ env.locals h (keep ++ news₁) → Q .next { s with heap := h, toks := tk }) :
    LoopAtV prog w A h₀ env x body Q E (.ref J) s := by
  refine ⟨J, fp, [J], n, P, St, m₀, keep ++ news, (fun i m l => ∃ l', l = keep ++ l' ∧ (∀ p ∈ l', p.1 ≠ J) ∧ I i m l'), rfl, W, hLf, (fun b hb => by rw [List.mem_singleton.mp hb]; exact hJ0), ?_, hst, F, N, ⟨news, rfl, hnw, h0⟩, ?_, ?_⟩
  · intro p hp hm
    rcases List.mem_append.mp hp with hp | hp
    · exact hkJ p hp (List.mem_singleton.mp hm)
    · exact hnw p hp (List.mem_singleton.mp hm)
  · rintro i v m₁ news₁ s₁ own ⟨hh', tk', rfl⟩ hin hP ⟨l', rfl, hl', hJ⟩ hoff hown hget hall hst' F₁ N₁
    obtain ⟨o, ho⟩ := hob _ _ hst'
    have hio : (J, o) ∈ own := hall J hJf hJ0 o ho
    have N₂ : News h₀ env.locals hh' ((J, o) :: keep ++ l') := by
      intro p hp
      rcases List.mem_append.mp hp with hp | hp
      · rcases List.mem_cons.mp hp with rfl | hp
        · exact N₁ _ (List.mem_append_left _ hio)
        · exact N₁ _ (List.mem_append_right _ (List.mem_append_left _ hp))
      · exact N₁ _ (List.mem_append_right _ (List.mem_append_right _ hp))
    refine wpAny_mono (turn i v m₁ l' hh' tk' o hin hP hJ hl' F₁ N₂) (fun f s₂ p => ?_) fun _ _ e => e
    have fin : TurnOk h₀ env.locals J ((J, o) :: keep) (I (i + 1)) { s with heap := hh', toks := tk' } s₂ →
        LoopStepU h₀ env.locals [J] own (fun m l => ∃ l', l = keep ++ l' ∧ (∀ p ∈ l', p.1 ≠ J) ∧ I (i + 1) m l') { s with heap := hh', toks := tk' } .next s₂ := by
      rintro ⟨h', tk, m', news', e, F', N', ha, hI⟩
      refine ⟨rfl, h', tk, m', keep ++ news', e, F', fun p hp => ?_, fun p hp hm => ?_, news', rfl, ha, hI⟩
      · rcases List.mem_append.mp hp with hp | hp
        · rcases hfp p.1 (hown p hp) with e1 | ⟨q, hq⟩ | ⟨o', ho'⟩
          · have e2 : p = (J, o) := by
              have h4 := hget p hp
              rw [e1, ho] at h4
              exact Prod.ext e1 (Option.some.inj h4).symm
            rw [e2]
            exact N' _ (List.mem_append_left _ (.head _))
          · have h5 := (N₁ p (List.mem_append_left _ hp)).2.2
            rw [hq] at h5
            cases h5
          · have h4 := hget p hp
            have h6 := (N₂ (p.1, o') (List.mem_append_left _ (.tail _ ho'))).1
            rw [h4] at h6
            have e2 : p = (p.1, o') := Prod.ext rfl (Option.some.inj h6)
            rw [e2]
            exact N' _ (List.mem_append_left _ (.tail _ ho'))
        · rcases List.mem_append.mp hp with hp | hp
          · exact N' _ (List.mem_append_left _ (.tail _ hp))
          · exact N' _ (List.mem_append_right _ hp)
      · rcases List.mem_append.mp hp with hp | hp
        · exact hkJ p hp (List.mem_singleton.mp hm)
        · exact ha p hp (List.mem_singleton.mp hm)
    cases f with
    | ret v => exact .ret p
    | brk => exact .brk p
    | next => exact .next (fin p.out)
    | cont => exact .cont (fin p.out)
  · rintro h' tk m' news' F' N' _ ⟨l', rfl, _, hI⟩
    exact done m' l' h' tk hI F' N'

/-- a for over a list that stands in the base -/
theorem for_listH {D : Addr} {vs : List Value} {m₀ : Str → Option Value} {news : List (Addr × Obj)} (I : Nat → (Str → Option Value) → List (Addr × Obj) → Prop)
    (hh : A.handled = none) (hl : h₀.IsList D vs.toArray) (F : Fr h₀ env.locals s.heap m₀) (N : News h₀ env.locals s.heap news) (h0 : I 0 m₀ news)
    (turn : ∀ i v m₁ news₁ h tk J o, vs[i]? = some v → (∀ p ∈ news, @LT.lt Nat _ p.1 J) → I i m₁ news₁ → (∀ p ∈ news₁, p.1 ≠ J) → Fr h₀ env.locals h (fun y => if y = x then some v else m₁ y) → News h₀ env.locals h ((J, o) :: news₁) →
      wpAny (model prog w) A (execs body env) (TurnEnds h₀ env.locals J [(J, o)] (I (i + 1)) { s with heap := h, toks := tk } Q) E { s with heap := h, toks := tk })
    (done : ∀ m₁ news₁ h tk, I vs.length m₁ news₁ → Fr h₀ env.locals h m₁ → News h₀ env.locals h news₁ → Q .next { s with heap := h, toks := tk }) :
    wpAny (model prog w) A (pyIter (.ref D)) (fun it s₂ => LoopAtV prog w A h₀ env x body Q E it s₂) E s := by
  have hls : s.heap.IsList D vs.toArray := hl.at fun o e => F.keep D o e
  obtain ⟨ol, hol, _⟩ := id hl
  have hlt : D < h₀.objs.size := Heap.lt_size hol
  have hne : D ≠ s.heap.objs.size := Nat.ne_of_lt (Nat.lt_trans (Nat.lt_of_lt_of_le hlt F.above) F.ns.lt)
  refine wpAny_pyIter_list hls ?_
  have W := Walks.list (prog := prog) (w := w) hh s.heap.objs.size D hne vs.toArray
  rw [List.size_toArray] at W
  refine for_at (keep := []) I W (List.mem_cons.mpr (.inl rfl)) ?_ ?_ (fun _ h => nomatch h) ?_ (next_is_new F) (fun p hp => Nat.ne_of_lt (Heap.lt_size (N p hp).1)) ⟨⟨_, Heap.get?_push_size _ rfl, rfl, rfl⟩, hls.at fun o e => Heap.get?_push_of_some _ e⟩ (F.push _) (fun p hp => ⟨Heap.get?_push_of_some _ (N p hp).1, (N p hp).2⟩) h0 ?_ ?_
  · intro b hb
    rcases List.mem_cons.mp hb with e | hb
    · exact .inl e
    · exact .inr (.inl ⟨ol, (List.mem_singleton.mp hb) ▸ hol⟩)
  · rintro i h ⟨⟨o, ho, _⟩, _⟩
    exact ⟨o, ho⟩
  · intro hm
    rcases List.mem_cons.mp hm with e | hm
    · exact absurd F.ns.lt (e ▸ Nat.lt_irrefl _)
    · exact absurd (Nat.lt_of_lt_of_le hlt F.above) ((List.mem_singleton.mp hm) ▸ Nat.lt_irrefl _)
  · intro i v m₁ news₁ h tk o hin hP hI hoff F₁ N₁
    exact turn i v m₁ news₁ h tk _ o (by simpa using hP) (fun p hp => Heap.lt_size (N p hp).1) hI hoff F₁ N₁
  · intro m₁ news₁ h tk hI F₁ N₁
    exact done m₁ news₁ h tk hI F₁ N₁

/-- a for over a list of the ledger -/
theorem for_listN {D : Addr} {vs : List Value} {dn : Nat} {m₀ : Str → Option Value} {news : List (Addr × Obj)} (I : Nat → (Str → Option Value) → List (Addr × Obj) → Prop)
    (hh : A.handled = none) (F : Fr h₀ env.locals s.heap m₀) (N : News h₀ env.locals s.heap ((D, listOf vs.toArray dn) :: news)) (h0 : I 0 m₀ news)
    (turn : ∀ i v m₁ news₁ h tk J o, vs[i]? = some v → @LT.lt Nat _ D J → (∀ p ∈ news, @LT.lt Nat _ p.1 J) → I i m₁ news₁ → (∀ p ∈ news₁, p.1 ≠ J) → Fr h₀ env.locals h (fun y => if y = x then some v else m₁ y) → News h₀ env.locals h ((J, o) :: (D, listOf vs.toArray dn) :: news₁) →
      wpAny (model prog w) A (execs body env) (TurnEnds h₀ env.locals J [(J, o), (D, listOf vs.toArray dn)] (I (i + 1)) { s with heap := h, toks := tk } Q) E { s with heap := h, toks := tk })
    (done : ∀ m₁ news₁ h tk, I vs.length m₁ news₁ → Fr h₀ env.locals h m₁ → News h₀ env.locals h ((D, listOf vs.toArray dn) :: news₁) → Q .next { s with heap := h, toks := tk }) :
    wpAny (model prog w) A (pyIter (.ref D)) (fun it s₂ => LoopAtV prog w A h₀ env x body Q E it s₂) E s := by
  have hls : s.heap.IsList D vs.toArray := N.isList (.head _)
  have hD := N _ (.head _)
  have hne : D ≠ s.heap.objs.size := Nat.ne_of_lt (Heap.lt_size hD.1)
  refine wpAny_pyIter_list hls ?_
  have W := Walks.list (prog := prog) (w := w) hh s.heap.objs.size D hne vs.toArray
  rw [List.size_toArray] at W
  refine for_at (keep := [(D, listOf vs.toArray dn)]) (news := news) I W (List.mem_cons.mpr (.inl rfl)) ?_ ?_ ?_ ?_ (next_is_new F) (fun p hp => Nat.ne_of_lt (Heap.lt_size (N p (.tail _ hp)).1)) ⟨⟨_, Heap.get?_push_size _ rfl, rfl, rfl⟩, hls.at fun o e => Heap.get?_push_of_some _ e⟩ (F.push _) (fun p hp => ⟨Heap.get?_push_of_some _ (N p hp).1, (N p hp).2⟩) h0 ?_ ?_
  · intro b hb
    rcases List.mem_cons.mp hb with e | hb
    · exact .inl e
    · refine .inr (.inr ⟨listOf vs.toArray dn, ?_⟩)
      rw [List.mem_singleton.mp hb]; exact List.Mem.head _
  · rintro i h ⟨⟨o, ho, _⟩, _⟩
    exact ⟨o, ho⟩
  · intro p hp; rw [List.mem_singleton.mp hp]; exact hne
  · intro hm
    rcases List.mem_cons.mp hm with e | hm
    · exact absurd F.ns.lt (e ▸ Nat.lt_irrefl _)
    · exact hD.2.1 (List.mem_singleton.mp hm).symm
  · intro i v m₁ news₁ h tk o hin hP hI hoff F₁ N₁
    exact turn i v m₁ news₁ h tk _ o (by simpa using hP) (Heap.lt_size hD.1) (fun p hp => Heap.lt_size (N p (.tail _ hp)).1) hI hoff F₁ N₁
  · intro m₁ news₁ h tk hI F₁ N₁
    exact done m₁ news₁ h tk hI F₁ N₁

/-- a for over range(n) -/
theorem for_range {r : Addr} {a₀ b₀ : Int} {t₀ u₀ v₀ : Tok} {n : Nat} {m₀ : Str → Option Value} {news : List (Addr × Obj)} (I : Nat → (Str → Option Value) → List (Addr × Obj) → Prop)
    (hh : A.handled = none) (hr : IsRange s.heap r a₀ b₀ 1 t₀ u₀ v₀) (hsmall : Builtin.Range.small a₀ b₀ 1 = true) (hn : Builtin.Range.rangeSize a₀ b₀ 1 = (n : Int)) (F : Fr h₀ env.locals s.heap m₀) (N : News h₀ env.locals s.heap news) (h0 : I 0 m₀ news)
    (turn : ∀ i t m₁ news₁ h tk J o, i < n → (∀ p ∈ news, @LT.lt Nat _ p.1 J) → I i m₁ news₁ → (∀ p ∈ news₁, p.1 ≠ J) → Fr h₀ env.locals h (fun y => if y = x then some (.int (a₀ + (i : Int)) t) else m₁ y) → News h₀ env.locals h ((J, o) :: news₁) →
      wpAny (model prog w) A (execs body env) (TurnEnds h₀ env.locals J [(J, o)] (I (i + 1)) { s with heap := h, toks := tk } Q) E { s with heap := h, toks := tk })
    (done : ∀ m₁ news₁ h tk, I n m₁ news₁ → Fr h₀ env.locals h m₁ → News h₀ env.locals h news₁ → Q .next { s with heap := h, toks := tk }) :
    wpAny (model prog w) A (pyIter (.ref r)) (fun it s₂ => LoopAtV prog w A h₀ env x body Q E it s₂) E s := by
  refine wpAny_pyIter_range hr hsmall ?_
  have W : Walks prog w A s.heap.objs.size [s.heap.objs.size] [s.heap.objs.size] n (fun i v => i < n ∧ ∃ t, v = .int (a₀ + i * 1) t)
      (fun i h => IsRangeIter h s.heap.objs.size (a₀ + (i : Nat) * 1) ((n : Int) - (i : Nat)) 1) := (Walks.range hh _ a₀ 1 n).bound
  refine for_at (keep := []) I W (List.mem_singleton.mpr rfl) (fun b hb => .inl (List.mem_singleton.mp hb)) (fun i h hs => ⟨_, hs⟩) (fun _ h => nomatch h) ?_ (next_is_new F) (fun p hp => Nat.ne_of_lt (Heap.lt_size (N p hp).1)) (by show IsRangeIter _ _ _ _ _; rw [hn]; simpa using Heap.get?_push_size _ rfl) (F.push _) (fun p hp => ⟨Heap.get?_push_of_some _ (N p hp).1, (N p hp).2⟩) h0 ?_ ?_
  · intro hm
    exact absurd F.ns.lt ((List.mem_singleton.mp hm) ▸ Nat.lt_irrefl _)
  · rintro i v m₁ news₁ h tk o hin ⟨_, t, rfl⟩ hI hoff F₁ N₁
    rw [Int.mul_one] at F₁
    exact turn i t m₁ news₁ h tk _ o hin (fun p hp => Heap.lt_size (N p hp).1) hI hoff F₁ N₁
  · intro m₁ news₁ h tk hI F₁ N₁
    exact done m₁ news₁ h tk hI F₁ N₁
end
end
local macro_rules | `(tactic| walk_at "TurnEnds") => `(tactic| (dsimp only [TurnEnds]))
section
-- B5b
/-- a call that turns one object of the ledger -/
noncomputable def DoesP {α : Type} (prog : Program) (w : World) (A : Around) (P : Addr) (t : Sem α) (s : Shared) (Ψ : α → Obj → List (Addr × Obj) → Prop) : Prop :=
  Does prog w A [P] t s (fun r tl => ∃ o' tl', tl = (P, o') :: tl' ∧ (∀ q ∈ tl', q.1 ≠ P) ∧ Ψ r o' tl')

theorem DoesP.use {α : Type} {prog : Program} {w : World} {A : Around} {P : Addr} {o : Obj} {t : Sem α} {s : Shared} {Ψ : α → Obj → List (Addr × Obj) → Prop} {h₀ : Heap} {L : Addr} {m : Str → Option Value} {news : List (Addr × Obj)} {g : Obj → List (Addr × Obj)} {Q : α → Shared → Prop} {E : Value → Shared → Prop}
    (D : DoesP prog w A P t s Ψ) (F : Fr h₀ L s.heap m) (N : News h₀ L s.heap news) (U : UpdF P o news g)
    (k : ∀ r o' tl' h' tk', Fr h₀ L h' m → News h₀ L h' (g o' ++ tl') → (∀ q ∈ tl', ∀ p ∈ news, p.1 ≠ q.1) → Ψ r o' tl' → Q r { s with heap := h', toks := tk' }) :
    wpAny (model prog w) A t Q E s := by
  obtain ⟨own, rest, rfl, hg, h1, h2⟩ := U.split
  have N1 : News h₀ L s.heap ([(P, o)] ++ (own ++ rest)) := by
    intro p hp
    refine N p ?_
    rcases List.mem_append.mp hp with hp | hp
    · rw [List.mem_singleton.mp hp]; exact List.mem_append_right _ (.head _)
    · rcases List.mem_append.mp hp with hp | hp
      · exact List.mem_append_left _ hp
      · exact List.mem_append_right _ (.tail _ hp)
  refine Does.use D F N1 (fun a ha => ⟨o, by rw [List.mem_singleton.mp ha]; exact .head _⟩) ?_ ?_
  · intro q hq hm
    have hm := List.mem_singleton.mp hm
    rcases List.mem_append.mp hq with hq | hq
    · exact h1 q hq hm
    · exact h2 q hq hm
  · rintro r h' tk' tl F' N' a ⟨o', tl', rfl, hP, hΨ⟩
    refine k r o' tl' h' tk' F' (fun p hp => N' p ?_) (fun q hq p hp => ?_) hΨ
    · rcases List.mem_append.mp hp with hp | hp
      · rw [hg] at hp
        rcases List.mem_append.mp hp with hp | hp
        · exact List.mem_append_right _ (List.mem_append_left _ hp)
        · rcases List.mem_cons.mp hp with rfl | hp
          · exact List.mem_append_left _ (.head _)
          · exact List.mem_append_right _ (List.mem_append_right _ hp)
      · exact List.mem_append_left _ (.tail _ hp)
    · rcases a q (.tail _ hq) with z | z
      · exact absurd (List.mem_singleton.mp z) (hP q hq)
      · refine z p ?_
        rcases List.mem_append.mp hp with hp | hp
        · exact List.mem_append_right _ (List.mem_append_left _ hp)
        · rcases List.mem_cons.mp hp with rfl | hp
          · exact List.mem_append_left _ (.head _)
          · exact List.mem_append_right _ (List.mem_append_right _ hp)

theorem take_P {prog : Program} {w : World} {A : Around} {s : Shared} {p : Program} {loose : List Str} {mean : ExcName → Option Value} {mg mb : Str → Option Value} {hB : Heap}
   {P : Addr} {n : Nat} {many : Int} {t : Tok} {vs : List Value}
   (X : (hd.heap_39 w.params).In hB) (T : Top p loose mean mg mb hB) (st : hB.StaysIn s.heap) (hP : s.heap.get? P = some (listOf vs.toArray n)) (hP0 : hB.get? P = none) (ok : PoolOk vs)
   (hm : 2 ≤ many ∧ many ≤ 9) (hd : A.depth < recursionLimit) :
   DoesP prog w A P (call (.ref 144) [.ref P, .int many t]) s (fun r o tl => ∃ d t' vs' n', r = .int d t' ∧ 0 ≤ d ∧ d < many ∧ PoolOk vs' ∧ o = listOf vs'.toArray n' ∧ tl = []) := by
  intro Q E k
  refine take_ X T st hP hP0 ok hm hd Q E fun r h' tk' tl a b c => ?_
  obtain ⟨d, t', vs', n', h1, h2, h3, h4, h5⟩ := c
  exact k r h' tk' tl a b ⟨_, [], h5, (fun _ h => nomatch h), d, t', vs', n', h1, h2, h3, h4, rfl, rfl⟩
theorem take_K {prog : Program} {w : World} {A : Around} {s : Shared} {p : Program} {loose : List Str} {mean : ExcName → Option Value} {mg mb : Str → Option Value} {E : Value → Shared → Prop} {Q : Value → Shared → Prop} {h₀ : Heap} {L : Addr} {m : Str → Option Value} {P : Addr} {n : Nat} {many : Int} {t : Tok} {vs : List Value} {news : List (Addr × Obj)} {g : Obj → List (Addr × Obj)}
   (F : Fr h₀ L s.heap m) (X : (hd.heap_39 w.params).In h₀) (T : Top p loose mean mg mb h₀) (N : News h₀ L s.heap news) (U : UpdF P (listOf vs.toArray n) news g) (ok : PoolOk vs)
   (hm : 2 ≤ many ∧ many ≤ 9) (hd : A.depth < recursionLimit)
   (k : ∀ d t' vs' n' h' tk', 0 ≤ d → d < many → PoolOk vs' → Fr h₀ L h' m → News h₀ L h' (g (listOf vs'.toArray n')) → Q (.int d t') { s with heap := h', toks := tk' }) :
   wpAny (model prog w) A (call (.ref 144) [.ref P, .int many t]) Q E s := by
  obtain ⟨own, rest, e, hg, h1, h2⟩ := id U.split
  have hN := N (P, listOf vs.toArray n) (by rw [e]; exact List.mem_append_right _ (.head _))
  refine DoesP.use (take_P X T (fun b o e => F.keep b o e) hN.1 hN.2.2 ok hm hd) F N U ?_
  rintro r o' tl' h' tk' F' N' a ⟨d, t', vs', n', rfl, h2, h3, h4, rfl, rfl⟩
  rw [List.append_nil] at N'
  exact k d t' vs' n' h' tk' h2 h3 h4 F' N'
end
section
-- B5c
theorem execs_cutN {M : Model} {A : Around} {E : Value → Shared → Prop} {env : Env} {Q : Flow → Shared → Prop} (Mid : Shared → Prop) (n : Nat) {l : List Stmt} {s : Shared}
    (h1 : wpAny M A (execs (l.take n) env) (fun f s' => f = .next ∧ Stop (Mid s')) E s) (h2 : ∀ s', Mid s' → wpAny M A (execs (l.drop n) env) Q E s') : wpAny M A (execs l env) Q E s := by
  intro Γ p hΓ
  have aux : ∀ (n : Nat) (l : List Stmt) (p : Pos) (s : Shared), (∀ s', Mid s' → wpAny M A (execs (l.drop n) env) Q E s') → Sem.wp M Γ (execs (l.take n) env) (fun f _ s' => f = .next ∧ Stop (Mid s')) (fun e _ s' => E e s') p s → Sem.wp M Γ (execs l env) (fun a _ s' => Q a s') (fun e _ s' => E e s') p s := by
    intro n
    induction n with
    | zero =>
      intro l p s h2 h
      have h' : Flow.next = Flow.next ∧ Stop (Mid s) := by cases l <;> exact h
      exact h2 s h'.2.out Γ p hΓ
    | succ n ih =>
      intro l p s h2 h
      cases l with
      | nil =>
        have h' : Flow.next = Flow.next ∧ Stop (Mid s) := h
        exact h2 s h'.2.out Γ p hΓ
      | cons a r =>
        rw [List.take_succ_cons, execs_cons, Sem.wp_bind'] at h
        rw [execs_cons, Sem.wp_bind']
        refine Sem.wp_mono M Γ _ (fun f p' s' h' => ?_) (fun _ _ _ h' => h') _ _ h
        cases f with
        | next => exact ih r p' s' h2 h'
        | _ => exact absurd h'.1 (by intro e; cases e)
  exact aux n l p s h2 (h1 Γ p hΓ)

theorem range_size {b : Int} : Builtin.Range.rangeSize 0 b 1 = (b.toNat : Int) := by
  have := PyProof.Rows.rangeSize_nat 0 b
  rw [this]; congr 1; exact ar369 this

theorem range_K {prog : Program} {w : World} {A : Around} {s : Shared} {E : Value → Shared → Prop} {Q : Value → Shared → Prop} {h₀ : Heap} {L : Addr} {m : Str → Option Value} {news : List (Addr × Obj)} {n : Int} {t : Tok} (F : Fr h₀ L s.heap m) (N : News h₀ L s.heap news)
    (k : ∀ r h' tk' t1 t2, Fr h₀ L h' m → News h₀ L h' news → (∀ p ∈ news, @LT.lt Nat _ p.1 r) → IsRange h' r 0 n 1 t1 t t2 → Q (.ref r) { s with heap := h', toks := tk' }) :
    wpAny (model prog w) A (call (.type "range") [.int n t]) Q E s :=
  call_range_1 (k s.heap.objs.size _ _ _ _ (F.push _) (fun p hp => N.push F _ (by rfl) p (.tail _ hp)) (fun p hp => Heap.lt_size (N p hp).1) (IsRange.new _ _ _ _ _ _ _))
/-- an item of a written menu of four texts -/
theorem menu_K {prog : Program} {w : World} {A : Around} {s : Shared} {E : Value → Shared → Prop} {Q : Value → Shared → Prop} {h₀ : Heap} {L : Addr} {news : List (Addr × Obj)} {value slice : Expr} {a : Addr} {n : Nat} {d : Int} {u t0 t1 t2 t3 : Tok} {x0 x1 x2 x3 : Str}
    (N : News h₀ L s.heap news) (hm : (a, ({ cls := .type "tuple", data := .seq [Value.str x0 t0, .str x1 t1, .str x2 t2, .str x3 t3].toArray n } : Obj)) ∈ news) (h0 : 0 ≤ d) (h1 : d < 4) (o0 : PyData.strOk x0 = true) (o1 : PyData.strOk x1 = true) (o2 : PyData.strOk x2 = true) (o3 : PyData.strOk x3 = true)
    (k : ∀ nm t, PyData.strOk nm = true → Q (.str nm t) s)
    (hs : subscripted slice false (Value.ref a) (Value.int d u) = operate [Value.ref a, Value.int d u] (getItem (Value.ref a) (Value.int d u)) := by with_unfolding_all rfl)
    (hv : ∀ r : Value, letTemporaryGo value (Value.ref a) r = pure () := by with_unfolding_all (intro r; rfl)) :
    wpAny (model prog w) A (subscriptTail value slice (.ref a) (.int d u)) Q E s := by
  have : d = 0 ∨ d = 1 ∨ d = 2 ∨ d = 3 := by exact ar370 h0 h1
  rcases this with rfl | rfl | rfl | rfl
  · exact kim_tup (j := 0) N hm rfl rfl (by omega) (by omega) rfl rfl (k _ _ o0) hs hv
  · exact kim_tup (j := 1) N hm rfl rfl (by omega) (by omega) rfl rfl (k _ _ o1) hs hv
  · exact kim_tup (j := 2) N hm rfl rfl (by omega) (by omega) rfl rfl (k _ _ o2) hs hv
  · exact kim_tup (j := 3) N hm rfl rfl (by omega) (by omega) rfl rfl (k _ _ o3) hs hv
end
section
-- B6a
noncomputable def G.UsOk : G → Prop
  | .nil => True
  | .cons _ n k r => ((k.tops ≠ [] → n.us = Str.ofString "") ∧ n.Ok) ∧ k.UsOk ∧ r.UsOk
noncomputable def G.Bd : G → Nat → Prop
  | .nil, _ => True
  | .cons _ _ _ _, 0 => False
  | .cons _ _ k r, d + 1 => k.tops.length ≤ 2 ∧ k.Bd d ∧ r.Bd (d + 1)
noncomputable def G.snoc : G → Addr → Nd → G → G
  | .nil, x, n, k => .cons x n k .nil
  | .cons y m j r, x, n, k => .cons y m j (r.snoc x n k)
theorem tops_snoc (x : Addr) (n : Nd) (k : G) : ∀ g : G, (g.snoc x n k).tops = g.tops ++ [x]
  | .nil => rfl
  | .cons y m j r => by show y :: (r.snoc x n k).tops = y :: r.tops ++ [x]; rw [tops_snoc x n k r]; rfl
theorem addrs_snoc (x : Addr) (n : Nd) (k : G) : ∀ g : G, (g.snoc x n k).addrs = g.addrs ++ (x :: k.addrs)
  | .nil => by show x :: (k.addrs ++ []) = [] ++ (x :: k.addrs); simp
  | .cons y m j r => by show y :: (j.addrs ++ (r.snoc x n k).addrs) = (y :: (j.addrs ++ r.addrs)) ++ (x :: k.addrs); rw [addrs_snoc x n k r]; simp
theorem usOk_snoc {x : Addr} {n : Nd} {k : G} (h1 : (k.tops ≠ [] → n.us = Str.ofString "") ∧ n.Ok) (h2 : k.UsOk) : ∀ {g : G}, g.UsOk → (g.snoc x n k).UsOk
  | .nil, _ => ⟨h1, h2, trivial⟩
  | .cons _ _ _ _, h => ⟨h.1, h.2.1, usOk_snoc h1 h2 h.2.2⟩
theorem bd_snoc {x : Addr} {n : Nd} {k : G} {d : Nat} (h1 : k.tops.length ≤ 2) (h2 : k.Bd d) : ∀ {g : G}, g.Bd (d + 1) → (g.snoc x n k).Bd (d + 1)
  | .nil, _ => ⟨h1, h2, trivial⟩
  | .cons _ _ _ _, h => ⟨h.1, h.2.1, bd_snoc h1 h2 h.2.2⟩
theorem kidsR_snoc {has : Addr → Obj → Prop} {P : Params} {par : Value} {x : Addr} {n : Nd} {k : G} (h1 : NodeR has P par x n k.tops) (h2 : KidsR has P (.ref x) k) : ∀ {g : G}, KidsR has P par g → KidsR has P par (g.snoc x n k)
  | .nil, _ => ⟨h1, h2, trivial⟩
  | .cons _ _ _ _, h => ⟨h.1, h.2.1, kidsR_snoc h1 h2 h.2.2⟩
theorem kidsR_addr {has : Addr → Obj → Prop} {P : Params} : ∀ {g : G} {par : Value}, KidsR has P par g → ∀ a ∈ g.addrs, ∃ o, has a o
  | .cons x n k r, par, h, a, ha => by
    have ha' : a ∈ x :: (k.addrs ++ r.addrs) := ha
    rcases List.mem_cons.mp ha' with rfl | ha'
    · obtain ⟨dx, kl, cl, tk, occ, en, kn, cn, h1, _⟩ := h.1
      exact ⟨_, h1⟩
    · rcases List.mem_append.mp ha' with ha' | ha'
      · exact kidsR_addr h.2.1 a ha'
      · exact kidsR_addr h.2.2 a ha'

theorem kidsR_at {has : Addr → Obj → Prop} {P : Params} {par : Value} : ∀ {g : G}, KidsR has P par g → ∀ (i : Nat) (y : Addr), g.tops[i]? = some y → ∃ n tops, NodeR has P par y n tops
  | .nil, _, i, y, h => by cases h
  | .cons x n k r, hg, 0, y, h => by
    have e : x = y := by simpa [G.tops] using h
    exact ⟨n, k.tops, e ▸ hg.1⟩
  | .cons x n k r, hg, i + 1, y, h => kidsR_at hg.2.2 i y (by simpa [G.tops] using h)
/-- what _law_grown hands back -/
inductive GrownΨ (P : Params) (d : Nat) (r : Value) (o : Obj) (tl : List (Addr × Obj)) : Prop
  | mk : ∀ x n ks dx cl kl tk occ en kn cn vs' n' ex, (r = .ref x) → (o = listOf vs'.toArray n') → (PoolOk vs') → (tl = (dx, dictOf (nodeEs P tk n occ cl kl .none) en) :: ex) → ((∀ q ∈ ex, q.1 ≠ dx)) → ((x, instObj 88 dx) ∈ ex) → ((cl, listOf #[] cn) ∈ ex) → ((kl, listOf (ks.tops.map Value.ref).toArray kn) ∈ ex) → (OccR (fun a o => (a, o) ∈ ex) P n.occ occ) → (KidsR (fun a o => (a, o) ∈ ex) P (.ref x) ks) → (((ks.tops ≠ [] → n.us = Str.ofString "") ∧ n.Ok)) → (ks.UsOk) → (ks.Bd d) → (ks.tops.length ≤ 2) → ((x :: ks.addrs).Nodup) → GrownΨ P d r o tl

theorem perm5 {h₀ h : Heap} {L : Addr} {a b c d e : Addr × Obj} (N : News h₀ L h [a, b, c, d, e]) : News h₀ L h [e, c, d, a, b] := News.sub N (by
  intro p hp; simp only [List.mem_cons, List.not_mem_nil, or_false] at hp ⊢; rcases hp with h | h | h | h | h <;> simp only [h, true_or, or_true])
theorem perm7 {h₀ h : Heap} {L : Addr} {i j a b c d e : Addr × Obj} (N : News h₀ L h [i, j, a, b, c, d, e]) : News h₀ L h [e, c, d, a, b, i, j] := News.sub N (by
  intro p hp; simp only [List.mem_cons, List.not_mem_nil, or_false] at hp ⊢; rcases hp with h | h | h | h | h | h | h <;> simp only [h, true_or, or_true])
theorem OccR.no {has : Addr → Obj → Prop} {P : Params} : OccR has P false .none := rfl
theorem OccR.yes {has : Addr → Obj → Prop} {P : Params} {o od : Addr} {tk : Nat → Tok} {en : Nat} (h1 : has o (instObj 41 od)) (h2 : has od (dictOf (occEs P tk) en)) : OccR has P true (.ref o) := ⟨o, od, tk, en, rfl, h1, h2⟩

/-- the grown node's end: from the body's last ledger to what is handed back -/
theorem grown_end {P : Params} {d : Nat} {g h' : Heap} {L pa x dx kl cl : Addr} {vs : List Value} {n kn cn en : Nat} {tk : Nat → Tok} {nd : Nd} {occ : Value} {ks : G} {ex : List (Addr × Obj)}
    (N : News g L h' ((pa, listOf vs.toArray n) :: (x, instObj 88 dx) :: (dx, dictOf (nodeEs P tk nd occ cl kl .none) en) :: (kl, listOf (ks.tops.map Value.ref).toArray kn) :: (cl, listOf #[] cn) :: ex))
    (ok : PoolOk vs) (l1 : @LT.lt Nat _ pa dx) (l2 : @LT.lt Nat _ dx x) (l3 : @LT.lt Nat _ x cl) (l4 : @LT.lt Nat _ cl kl) (l5 : ∀ q ∈ ex, q.1 ≠ pa ∧ q.1 ≠ x ∧ q.1 ≠ dx ∧ q.1 ≠ kl ∧ q.1 ≠ cl)
    (hocc : OccR (fun a o => (a, o) ∈ ex) P nd.occ occ) (hk : KidsR (fun a o => (a, o) ∈ ex) P (.ref x) ks) (hus : (ks.tops ≠ [] → nd.us = Str.ofString "") ∧ nd.Ok) (h1 : ks.UsOk) (h2 : ks.Bd d) (h3 : ks.tops.length ≤ 2) (h4 : ks.addrs.Nodup) :
    ∃ tl, News g L h' tl ∧ ∃ o' tl', tl = (pa, o') :: tl' ∧ (∀ q ∈ tl', q.1 ≠ pa) ∧ GrownΨ P d (.ref x) o' tl' := by
  have sub : ∀ a o, (a, o) ∈ ex → (a, o) ∈ (x, instObj 88 dx) :: (kl, listOf (ks.tops.map Value.ref).toArray kn) :: (cl, listOf #[] cn) :: ex := fun a o h => .tail _ (.tail _ (.tail _ h))
  refine ⟨(pa, listOf vs.toArray n) :: (dx, dictOf (nodeEs P tk nd occ cl kl .none) en) :: (x, instObj 88 dx) :: (kl, listOf (ks.tops.map Value.ref).toArray kn) :: (cl, listOf #[] cn) :: ex, ?_, _, _, rfl, ?_, x, nd, ks, dx, cl, kl, tk, occ, en, kn, cn, vs, n, _, rfl, rfl, ok, rfl, ?_, .head _, .tail _ (.tail _ (.head _)), .tail _ (.head _), hocc.mono sub, hk.mono sub, hus, h1, h2, h3, ?_⟩
  · refine News.sub N fun p hp => ?_
    exact (by walk_at "mine subs" : ∀ z ∈ _, z ∈ _) p hp
  · intro q hq e
    have e' : @Eq Nat q.1 pa := e
    simp only [List.mem_cons] at hq
    rcases hq with h | h | h | h | h
    · rw [h] at e'; dsimp only at e'; exact ar308 l1 e'
    · rw [h] at e'; dsimp only at e'; exact ar325 l2 l1 e'
    · rw [h] at e'; dsimp only at e'; exact ar324 l3 l1 l2 l4 e'
    · rw [h] at e'; dsimp only at e'; exact ar323 l2 l1 l3 e'
    · exact (l5 q h).1 e
  · intro q hq e
    have e' : @Eq Nat q.1 dx := e
    simp only [List.mem_cons] at hq
    rcases hq with h | h | h | h
    · rw [h] at e'; dsimp only at e'; exact ar308 l2 e'
    · rw [h] at e'; dsimp only at e'; exact ar323 l3 l2 l4 e'
    · rw [h] at e'; dsimp only at e'; exact ar325 l3 l2 e'
    · exact (l5 q h).2.2.1 e
  · refine List.nodup_cons.mpr ⟨fun hx => ?_, h4⟩
    obtain ⟨o, ho⟩ := kidsR_addr hk x hx
    exact (l5 _ ho).2.1 rfl

noncomputable def GrownSpec (d : Nat) : Prop := ∀ {prog : Program} {w : World} {A : Around} {s : Shared} {p : Program} {loose : List Str} {mean : ExcName → Option Value} {mg mb : Str → Option Value} {hB : Heap} {P : Addr} {n : Nat} {vs : List Value} {nm : Str} {deep : Int} {t u : Tok},
   (hd.heap_39 w.params).In hB → Top p loose mean mg mb hB → hB.StaysIn s.heap → s.heap.get? P = some (listOf vs.toArray n) → hB.get? P = none → PoolOk vs → PyData.strOk nm = true → deep = 2 - d → A.depth + 4 * d + 4 < recursionLimit → A.handled = none →
   DoesP prog w A P (call (.ref 151) [.ref P, .str nm t, .int deep u]) s (GrownΨ w.params d)

theorem grown_K {d : Nat} (ih : GrownSpec d) {prog : Program} {w : World} {A : Around} {s : Shared} {p : Program} {loose : List Str} {mean : ExcName → Option Value} {mg mb : Str → Option Value} {E : Value → Shared → Prop} {Q : Value → Shared → Prop} {h₀ : Heap} {L : Addr} {m : Str → Option Value} {P : Addr} {n : Nat} {vs : List Value} {nm : Str} {deep : Int} {t u : Tok} {news : List (Addr × Obj)} {g : Obj → List (Addr × Obj)}
   (F : Fr h₀ L s.heap m) (X : (hd.heap_39 w.params).In h₀) (T : Top p loose mean mg mb h₀) (N : News h₀ L s.heap news) (U : UpdF P (listOf vs.toArray n) news g) (ok : PoolOk vs) (so : PyData.strOk nm = true)
   (hdeep : deep = 2 - d) (hdp : A.depth + 4 * d + 4 < recursionLimit) (hh : A.handled = none)
   (k : ∀ y nd ks dy cl kl tk occ en kn cn vs' n' ex h' tk', PoolOk vs' → (∀ q ∈ ex, q.1 ≠ dy) → (y, instObj 88 dy) ∈ ex → (cl, listOf #[] cn) ∈ ex → (kl, listOf (ks.tops.map Value.ref).toArray kn) ∈ ex →
      OccR (fun a o => (a, o) ∈ ex) w.params nd.occ occ → KidsR (fun a o => (a, o) ∈ ex) w.params (.ref y) ks →
      ((ks.tops ≠ [] → nd.us = Str.ofString "") ∧ nd.Ok) → ks.UsOk → ks.Bd d → ks.tops.length ≤ 2 → (y :: ks.addrs).Nodup →
      Fr h₀ L h' m → News h₀ L h' (g (listOf vs'.toArray n') ++ (dy, dictOf (nodeEs w.params tk nd occ cl kl .none) en) :: ex) → (∀ q ∈ (dy, dictOf (nodeEs w.params tk nd occ cl kl .none) en) :: ex, ∀ p ∈ news, p.1 ≠ q.1) → Q (.ref y) { s with heap := h', toks := tk' }) :
   wpAny (model prog w) A (call (.ref 151) [.ref P, .str nm t, .int deep u]) Q E s := by
  obtain ⟨own, rest, e, hg, h1, h2⟩ := id U.split
  have hN := N (P, listOf vs.toArray n) (by rw [e]; exact List.mem_append_right _ (.head _))
  refine DoesP.use (ih X T (fun b o e => F.keep b o e) hN.1 hN.2.2 ok so hdeep hdp hh) F N U ?_
  rintro r o' tl' h' tk' F' N' a ⟨y, nd, ks, dy, cl, kl, tk, occ, en, kn, cn, vs', n', ex, rfl, rfl, ok', rfl, z1, z2, z3, z4, z5, z6, z7, z8, z9, z10, z11⟩
  exact k y nd ks dy cl kl tk occ en kn cn vs' n' ex h' tk' ok' z1 z2 z3 z4 z5 z6 z7 z8 z9 z10 z11 F' N' a
end
section
local macro_rules | `(tactic| walk_at "call ref") => `(tactic| (k_here; k_dflt (refine' take_K ?F ?X ?T ?N ?U ?ok ?m ?d ?_; (case F => k_asm); (case X => k_asm); (case T => k_asm); (case N => k_asm); (case U => k_updF); (case ok => assumption); (case m => decide); (case d => (simp only [depth_under_make, depth_deeper]; omega)); k_whole; intro d' t' vs' n' h' tk' d0' d1' ok' F' N'; (try dsimp only at N'); (try k_sweep); (try k_fold))))
local macro_rules | `(tactic| walk_at "call ref") => `(tactic| (k_here; k_dflt (refine' item_new ?F ?X ?T ?N ?d ?_; (case F => k_asm); (case X => k_asm); (case T => k_asm); (case N => k_asm); (case d => (simp only [depth_under_make, depth_deeper]; omega)); k_whole; intro x' dx' cl' kl' h' tk' tk2' en' F' N' l1 l2 l3 l4; (try k_lt l1); (try k_lt2 l2); (try k_lt2 l3); (try k_lt2 l4); (try k_sweep); (try k_fold))))
local macro_rules | `(tactic| walk_at "call ref") => `(tactic| (k_here; k_dflt (refine' occ_new ?F ?X ?T ?N ?d ?_; (case F => k_asm); (case X => k_asm); (case T => k_asm); (case N => k_asm); (case d => (simp only [depth_under_make, depth_deeper]; omega)); k_whole; intro x' dx' h' tk' tk2' en' F' N' l1 l2; (try k_lt l1); (try k_lt2 l2); (try k_sweep); (try k_fold))))
local macro_rules | `(tactic| walk_at "call type:range") => `(tactic| (k_here; k_dflt (refine' range_K ?F ?N ?_; (case F => k_asm); (case N => k_asm); k_whole; intro r' h' tk' t1' t2' F' N' l1 R'; (try k_lt l1); (try k_sweep); (try k_fold))))
local macro_rules | `(tactic| walk_at "subscriptTail") => `(tactic| (k_here; k_dflt (refine' menu_K ?N ?m ?h0 ?h1 ?o0 ?o1 ?o2 ?o3 ?_ ?hs ?hv; (case N => k_asm); (case m => k_mem); (case h0 => assumption); (case h1 => assumption); (case o0 => decide +kernel); (case o1 => decide +kernel); (case o2 => decide +kernel); (case o3 => decide +kernel); (case hs => with_unfolding_all rfl); (case hv => with_unfolding_all (intro r; rfl)); k_whole; intro nm' t' so'; (try k_fold))))
local macro_rules | `(tactic| walk_at $s:str) => `(tactic| k_extra $s)
section
-- B6
theorem fillK6 : ∀ P : Params, (hd.heap_39 P) = hd.heap_39 P ∧ PySem.Challenge.rw_og0075_01 = PySem.Challenge.rw_og0075_01 := by
  k_fill
  intro P; exact ⟨rfl, rfl⟩


inductive GrownM (Pm : Params) (g : Heap) (L' P : Addr) (s : Shared) (deep : Int) (u : Tok) (nm : Str) (t : Tok) (s' : Shared) : Prop
  | mk : ∀ h' tk' x dx cl kl tkN en occ nd vs' n' ex dw tw, (s' = { s with heap := h', toks := tk' }) → (Fr g L' h' (fun y => if y = Str.ofString "way" then some (.int dw tw) else if y = Str.ofString "found" then some (.ref x) else [(Str.ofString "deep", Value.int deep u), (Str.ofString "name", .str nm t), (Str.ofString "pool", .ref P)].lookup y)) → (News g L' h' ((P, listOf vs'.toArray n') :: (x, instObj 88 dx) :: (dx, dictOf (nodeEs Pm tkN nd occ cl kl .none) en) :: (kl, listOf #[] 0) :: (cl, listOf #[] 0) :: ex)) → (PoolOk vs') → (OccR (fun a o => (a, o) ∈ ex) Pm nd.occ occ) → (((dw ≠ 3 → nd.us = Str.ofString "") ∧ nd.Ok)) → (@LT.lt Nat _ P dx) → (@LT.lt Nat _ dx x) → (@LT.lt Nat _ x cl) → (@LT.lt Nat _ cl kl) → ((∀ q ∈ ex, @LT.lt Nat _ kl q.1)) → GrownM Pm g L' P s deep u nm t s'
inductive GrownI (Pm : Params) (P x dx cl kl : Addr) (tkN : Nat → Tok) (nd : Nd) (occ : Value) (en d3 : Nat) (m0 : Str → Option Value) (i : Nat) (m : Str → Option Value) (news : List (Addr × Obj)) : Prop
  | mk : ∀ vs' n' kn ks ex', (news = (P, listOf vs'.toArray n') :: (x, instObj 88 dx) :: (dx, dictOf (nodeEs Pm tkN nd occ cl kl .none) en) :: (kl, listOf (ks.tops.map Value.ref).toArray kn) :: (cl, listOf #[] 0) :: ex') → (PoolOk vs') → ((∀ z, z ≠ Str.ofString "turn" → m z = m0 z)) → (OccR (fun a o => (a, o) ∈ ex') Pm nd.occ occ) → (KidsR (fun a o => (a, o) ∈ ex') Pm (.ref x) ks) → (ks.UsOk) → (ks.Bd d3) → (ks.tops.length = i) → (ks.addrs.Nodup) → ((∀ q ∈ ex', q.1 ≠ P ∧ q.1 ≠ x ∧ q.1 ≠ dx ∧ q.1 ≠ kl ∧ q.1 ≠ cl)) → GrownI Pm P x dx cl kl tkN nd occ en d3 m0 i m news

theorem grown_S (d : Nat) (ihd : ∀ d', d = d' + 1 → GrownSpec d') : GrownSpec d := by
  intro prog w A s p loose mean mg mb hB P n vs nm deep t u X T st hP hP0 ok so hdeep hdp hh
  intro Q E k
  have hH : ∀ q ∈ [(P, listOf vs.toArray n)], s.heap.get? q.1 = some q.2 ∧ hB.get? q.1 = none := by
    intro q hq; rw [List.mem_singleton.mp hq]; exact ⟨hP, hP0⟩
  have hroom : A.depth < recursionLimit := by exact ar321 hdp
  refine' enterF (binds := [(Str.ofString "pool", .ref P), (Str.ofString "name", .str nm t), (Str.ofString "deep", .int deep u)]) (rb := [(Str.ofString "deep", .int deep u), (Str.ofString "name", .str nm t), (Str.ofString "pool", .ref P)]) X T st hH hroom ?ho ?hcd ?hb ?hl ?hr ?_ ?c2 ?c3 ?c4 ?c5
  case ho => k_is
  case hcd => k_is
  case hb => exact BindsTo.of_eq rfl
  case hl => exact locs rfl
  case hr => exact rfl
  case c2 => exact rfl
  case c3 => exact rfl
  case c4 => exact rfl
  case c5 => decide
  intro g L' h₁ F1 N1 X1 T1 st1 up dn
  refine execs_cutN (GrownM w.params g L' P s deep u nm t) 3 ?_ ?_
  · dsimp only [List.take]
    try k_fold
    k_steps
    · refine ⟨⟨_, _, _, _, _, _, _, _, _, _, _, _, _, _, _, rfl, by assumption, perm7 (by assumption), by assumption, OccR.yes (List.Mem.head _) (List.Mem.tail _ (List.Mem.head _)), ⟨fun _ => rfl, so, by first | exact so0 | exact soI, by first | exact so0 | exact soA⟩, by assumption, by assumption, by assumption, by assumption, ?_⟩⟩
      intro q hq
      rcases List.mem_cons.mp hq with rfl | hq
      · dsimp only; omega
      · rw [List.mem_singleton.mp hq]; dsimp only; omega
    · exact ⟨⟨_, _, _, _, _, _, _, _, _, _, _, _, _, _, _, rfl, by assumption, perm5 (by assumption), by assumption, OccR.no, ⟨fun _ => rfl, so, by first | exact so0 | exact soI, by first | exact so0 | exact soA⟩, by assumption, by assumption, by assumption, by assumption, fun _ h => nomatch h⟩⟩
    · exact ⟨⟨_, _, _, _, _, _, _, _, _, _, _, _, _, _, _, rfl, by assumption, perm5 (by assumption), by assumption, OccR.no, ⟨fun h => absurd (by assumption) h, so, by first | exact so0 | exact soI, by first | exact so0 | exact soA⟩, by assumption, by assumption, by assumption, by assumption, fun _ h => nomatch h⟩⟩
    · exact ⟨⟨_, _, _, _, _, _, _, _, _, _, _, _, _, _, _, rfl, by assumption, perm5 (by assumption), by assumption, OccR.no, ⟨fun _ => rfl, so, by first | exact so0 | exact soI, by first | exact so0 | exact soA⟩, by assumption, by assumption, by assumption, by assumption, fun _ h => nomatch h⟩⟩
    · exact ⟨⟨_, _, _, _, _, _, _, _, _, _, _, _, _, _, _, rfl, by assumption, perm5 (by assumption), by assumption, OccR.no, ⟨fun _ => rfl, so, by first | exact so0 | exact soI, by first | exact so0 | exact soA⟩, by assumption, by assumption, by assumption, by assumption, fun _ h => nomatch h⟩⟩
  · rintro s' ⟨h2, tk2, x, dx, cl, kl, tkN, en, occ, nd, vs2, n2, ex, dw, tw, rfl, F2, N2, ok2, hocc, hus, l1, l2, l3, l4, l5⟩
    dsimp only [List.drop]
    clear F1 N1
    have l6 : ∀ q ∈ ex, q.1 ≠ P := fun q hq e => by have := l5 q hq; have e' : @Eq Nat q.1 P := e; exact ar322 l3 l1 l2 l4 this e'
    have l7 : ∀ q ∈ ex, q.1 ≠ P ∧ q.1 ≠ x ∧ q.1 ≠ dx ∧ q.1 ≠ kl ∧ q.1 ≠ cl := fun q hq => by
      have h0 := l5 q hq
      refine ⟨fun e => ?_, fun e => ?_, fun e => ?_, fun e => ?_, fun e => ?_⟩
      · have e' : @Eq Nat q.1 P := e; exact ar322 l3 l1 l2 l4 h0 e'
      · have e' : @Eq Nat q.1 x := e; exact ar323 l4 l3 h0 e'
      · have e' : @Eq Nat q.1 dx := e; exact ar324 l4 l2 l3 h0 e'
      · have e' : @Eq Nat q.1 kl := e; exact ar308 h0 e'
      · have e' : @Eq Nat q.1 cl := e; exact ar325 h0 l4 e'
    have fin0 : ∀ (h' : Heap) (tk' : Nat) (m' : Str → Option Value) (vs' : List Value) (n' : Nat), Fr g L' h' m' → News g L' h' ((P, listOf vs'.toArray n') :: (x, instObj 88 dx) :: (dx, dictOf (nodeEs w.params tkN nd occ cl kl .none) en) :: (kl, listOf #[] 0) :: (cl, listOf #[] 0) :: ex) → PoolOk vs' → Q (.ref x) { s with heap := h', toks := tk' } := by
      intro h' tk' m' vs' n' F' N' ok'
      obtain ⟨tl, N3, o3, tl3, e3, hn3, hg3⟩ := grown_end (ks := .nil) (d := d) N' ok' l1 l2 l3 l4 l7 hocc trivial ⟨fun h => absurd rfl h, hus.2⟩ trivial trivial (Nat.zero_le _) List.nodup_nil
      exact k _ _ _ _ (leaveFresh F' N3 up).1 (leaveFresh F' N3 up).2 ⟨o3, tl3, e3, hn3, hg3⟩
    k_with "pyIter ref" => (refine stop_here ?_)
    try k_fold
    k_steps
    · exact fin0 _ _ _ _ _ (by assumption) (News.sub (by assumption) fun _ h => .tail _ h) (by assumption)
    · refine ⟨?_⟩
      obtain ⟨d2, rfl⟩ : ∃ d2, d = d2 + 1 := ⟨d - 1, by omega⟩
      have ih : GrownSpec d2 := @ihd d2 rfl
      rename IsRange _ _ _ _ _ _ _ _ => R9
      rename Fr g L' _ _ => F9
      rename News g L' _ _ => N9
      k_with_none
      with_unfolding_all refine for_range (GrownI w.params P x dx cl kl tkN nd occ en (d2 + 1) (fun y => if y = Str.ofString "way" then some (.int dw tw) else if y = Str.ofString "found" then some (.ref x) else [(Str.ofString "deep", Value.int deep u), (Str.ofString "name", .str nm t), (Str.ofString "pool", .ref P)].lookup y)) hh R9 (small_one (by omega) (by omega) (by omega) (by omega)) range_size F9 (News.sub N9 fun _ h => .tail _ h) ⟨_, _, _, .nil, _, rfl, by assumption, fun _ _ => rfl, hocc, trivial, trivial, trivial, rfl, List.nodup_nil, l7⟩ ?_ ?_
      · rintro i ti m₁ news₁ h3 tk3 J oJ hi hJ ⟨vs3, n3, kn, ks, ex3, rfl, ok3, hm, ho3, hk3, hu3, hb3, hlen, hnd, hap⟩ hoff F3 N3
        have em : (fun y => if y = Str.ofString "turn" then some (Value.int (0 + (i : Int)) ti) else m₁ y) = fun y => if y = Str.ofString "turn" then some (Value.int (0 + (i : Int)) ti) else if y = Str.ofString "way" then some (.int dw tw) else if y = Str.ofString "found" then some (.ref x) else [(Str.ofString "deep", Value.int deep u), (Str.ofString "name", .str nm t), (Str.ofString "pool", .ref P)].lookup y := by
          funext y
          by_cases hy : y = Str.ofString "turn"
          · simp only [if_pos hy]
          · simp only [if_neg hy]; exact hm y hy
        rw [em] at F3
        clear F9 N9 R9 em
        k_lt hJ
        change Fr g L' _ _ at F3
        change News g L' _ _ at N3
        have hap1 : ∀ q ∈ ex3, q.1 ≠ P := fun q hq => (hap q hq).1
        k_with "call ref" => ((with_reducible show wpAny _ _ (call (Value.ref 66) _ _) _ _ _); refine stop_here ?_)
        k_with "call ref" => ((with_reducible show wpAny _ _ (call (Value.ref 151) _ _) _ _ _); refine stop_here ?_)
        k_steps
        refine ⟨?_⟩
        rename Fr g L' _ _ => F5
        rename News g L' _ _ => N5
        k_dflt (refine' grown_K ih F5 X1 T1 N5 ?U ?ok ?so ?hdeep ?hdp ?hh ?_)
        case U => k_updF
        case ok => assumption
        case so => assumption
        case hdeep => exact ar326 hdeep
        case hdp => show A.depth + 1 + 4 * d2 + 4 < recursionLimit; exact ar327 hdp
        case hh => exact hh
        intro y nd5 ks5 dy cl5 kl5 tk5 occ5 en5 kn5 cn5 vs5 n5 ex5 h5 tk5' ok5 z1 z2 z3 z4 z5 z6 z7 z8 z9 z10 z11 F6 N6 a6
        clear F5 N5
        simp only [List.cons_append] at N6
        simp only [List.forall_mem_cons] at a6
        obtain ⟨a7, a8⟩ := a6
        obtain ⟨c1, c2, c3, c4, c5, c6, c7, c8⟩ := a7
        try k_fold
        k_steps
        refine ⟨?_⟩
        rename Fr g L' _ _ => F7
        rename News g L' _ _ => N7
        have hsz : ((ks.tops.map Value.ref).toArray).size < 24 := by simp only [List.size_toArray, List.length_map]; omega
        have m5 : ∀ q ∈ ex5, q.1 ≠ P ∧ q.1 ≠ x ∧ q.1 ≠ dx ∧ q.1 ≠ kl ∧ q.1 ≠ cl := fun q hq => by
          obtain ⟨_, _, b3, b4, b5, b6, b7, _⟩ := a8 q hq
          exact ⟨b3.symm, b4.symm, b5.symm, b6.symm, b7.symm⟩
        have e4 := z1 _ z2
        have hy5 := m5 _ z2
        refine add_ F7 X1 T1 (by show A.depth + 1 + 2 < recursionLimit; exact ar328 hdp) (News.sub N7 (l' := (x, instObj 88 dx) :: (dx, dictOf (nodeEs w.params tkN nd occ cl kl .none) en) :: (kl, listOf (ks.tops.map Value.ref).toArray kn) :: (y, instObj 88 dy) :: (dy, dictOf (nodeEs w.params tk5 nd5 occ5 cl5 kl5 .none) en5) :: (P, listOf vs5.toArray n5) :: (J, oJ) :: (cl, listOf #[] 0) :: (ex3 ++ ex5)) ?_) hsz c4.symm c5.symm c6.symm (fun e => e4 e.symm) ?_ (fun e => ?_) (fun e => ?_) (fun e => hy5.2.2.2.1 e.symm) ?_ ?_
        · intro p hp
          simp only [List.mem_cons, List.mem_append] at hp ⊢
          rcases hp with h | h | h | h | h | h | h | h | h | h
          · simp only [h, true_or, or_true]
          · simp only [h, true_or, or_true]
          · simp only [h, true_or, or_true]
          · rw [h]; simp only [z2, or_true]
          · simp only [h, true_or, or_true]
          · simp only [h, true_or, or_true]
          · simp only [h, true_or, or_true]
          · simp only [h, true_or, or_true]
          · simp only [h, true_or, or_true]
          · simp only [h, or_true]
        · intro q hq
          simp only [List.mem_cons, List.mem_append] at hq
          rcases hq with h | h | h | h | h
          · rw [h]; exact c3
          · rw [h]; exact c2
          · rw [h]; exact c7
          · exact c8 q h
          · exact z1 q h
        · exact ar325 l4 l3 e
        · exact ar323 l3 l2 l4 e
        · intro q hq e
          have e' : @Eq Nat q.1 kl := e
          simp only [List.mem_cons, List.mem_append] at hq
          rcases hq with h | h | h | h | h
          · rw [h] at e'; dsimp only at e'; exact ar329 l3 l1 l2 l4 e'
          · rw [h] at e'; dsimp only at e'; omega
          · rw [h] at e'; dsimp only at e'; exact ar330 l4 e'
          · exact (hap q h).2.2.2.1 e
          · exact (m5 q h).2.2.2.1 e
        · intro h9 tk9 F9 N9
          clear F7 N7
          have ea : (ks.tops.map Value.ref).toArray.push (.ref y) = ((ks.snoc y nd5 ks5).tops.map Value.ref).toArray := by rw [tops_snoc]; simp
          rw [ea] at N9
          k_steps
          have hnd5 : (ks.snoc y nd5 ks5).addrs.Nodup := by
            rw [addrs_snoc]
            refine List.nodup_append.mpr ⟨hnd, z11, fun a ha b hb e => ?_⟩
            obtain ⟨o1, q1⟩ := kidsR_addr hk3 a ha
            have q2 : ∃ o2, (b, o2) ∈ ex5 := by
              rcases List.mem_cons.mp hb with h | h
              · rw [h]; exact ⟨_, z2⟩
              · exact kidsR_addr z6 b h
            obtain ⟨o2, q2⟩ := q2
            obtain ⟨_, _, _, _, _, _, _, b8⟩ := a8 _ q2
            exact b8 _ q1 e
          have sub3 : ∀ a o, (a, o) ∈ ex3 → (a, o) ∈ (dy, dictOf (nodeEs w.params tk5 nd5 occ5 cl5 kl5 (Value.ref x)) en5) :: (ex3 ++ ex5) := fun a o h => .tail _ (List.mem_append_left _ h)
          have sub5 : ∀ a o, (a, o) ∈ ex5 → (a, o) ∈ (dy, dictOf (nodeEs w.params tk5 nd5 occ5 cl5 kl5 (Value.ref x)) en5) :: (ex3 ++ ex5) := fun a o h => .tail _ (List.mem_append_right _ h)
          refine ⟨⟨_, _, _, (P, listOf vs5.toArray n5) :: (x, instObj 88 dx) :: (dx, dictOf (nodeEs w.params tkN nd occ cl kl Value.none) en) :: (kl, listOf ((ks.snoc y nd5 ks5).tops.map Value.ref).toArray (kn + 1)) :: (cl, listOf #[] 0) :: ((dy, dictOf (nodeEs w.params tk5 nd5 occ5 cl5 kl5 (Value.ref x)) en5) :: (ex3 ++ ex5)), rfl, F9, News.sub N9 ?_, ?_, ?_⟩⟩
          · intro p hp
            exact (by walk_at "mine subs" : ∀ z ∈ _, z ∈ _) p hp
          · intro q hq e
            have e' : @Eq Nat q.1 J := e
            simp only [List.mem_cons, List.mem_append] at hq
            rcases hq with h | h | h | h | h | h | h | h
            · rw [h] at e'; dsimp only at e'; omega
            · rw [h] at e'; dsimp only at e'; omega
            · rw [h] at e'; dsimp only at e'; omega
            · rw [h] at e'; dsimp only at e'; omega
            · rw [h] at e'; dsimp only at e'; omega
            · rw [h] at e; exact c2 e.symm
            · exact hoff q (.tail _ (.tail _ (.tail _ (.tail _ (.tail _ h))))) e
            · obtain ⟨_, b2, _⟩ := a8 q h
              exact b2 e.symm
          · refine ⟨vs5, n5, kn + 1, ks.snoc y nd5 ks5, _, rfl, ok5, fun z hz => if_neg hz, ho3.mono sub3, kidsR_snoc ⟨dy, kl5, cl5, tk5, occ5, en5, kn5, cn5, sub5 _ _ z2, .head _, sub5 _ _ z3, sub5 _ _ z4, z5.mono sub5⟩ (z6.mono sub5) (hk3.mono sub3), usOk_snoc z7 z8 hu3, bd_snoc z10 z9 hb3, ?_, hnd5, ?_⟩
            · rw [tops_snoc, List.length_append, hlen]; rfl
            · intro q hq
              simp only [List.mem_cons, List.mem_append] at hq
              rcases hq with h | h | h
              · rw [h]; exact ⟨c3.symm, c4.symm, c5.symm, c6.symm, c7.symm⟩
              · exact hap q h
              · exact m5 q h
      · rintro m₁ news₁ h3 tk3 ⟨vs3, n3, kn, ks, ex3, rfl, ok3, hm, ho3, hk3, hu3, hb3, hlen, hnd, hap⟩ F3 N3
        have em : m₁ = fun y => if y = Str.ofString "turn" then m₁ y else if y = Str.ofString "way" then some (.int dw tw) else if y = Str.ofString "found" then some (.ref x) else [(Str.ofString "deep", Value.int deep u), (Str.ofString "name", .str nm t), (Str.ofString "pool", .ref P)].lookup y := by
          funext y
          by_cases hy : y = Str.ofString "turn"
          · simp only [if_pos hy]
          · simp only [if_neg hy]; exact hm y hy
        rw [em] at F3
        clear F9 N9 R9
        change Fr g L' _ _ at F3
        change News g L' _ _ at N3
        k_steps
        have hd3 : dw ≠ 3 := by
          intro e; subst e
          rename (List.any _ _) = false => ha
          exact absurd ha (by decide)
        obtain ⟨tl, N4, o3, tl3, e3, hn3, hg3⟩ := grown_end (d := d2 + 1) N3 ok3 l1 l2 l3 l4 hap ho3 hk3 ⟨fun _ => hus.1 hd3, hus.2⟩ hu3 hb3 (by omega) hnd
        exact k _ _ _ _ (leaveFresh F3 N4 up).1 (leaveFresh F3 N4 up).2 ⟨o3, tl3, e3, hn3, hg3⟩
    · exact fin0 _ _ _ _ _ (by assumption) (by assumption) (by assumption)
    · exact fin0 _ _ _ _ _ (by assumption) (by assumption) (by assumption)

theorem grown_ : ∀ d : Nat, GrownSpec d
  | 0 => grown_S 0 fun _ h => nomatch h
  | d + 1 => grown_S (d + 1) fun d' h => by
    have e : d = d' := by exact ar331 h
    subst e; exact @grown_ d
end
section
-- B7
theorem fillK7 : ∀ P : Params, (hd.heap_39 P) = hd.heap_39 P ∧ PySem.Challenge.rw_og0075_01 = PySem.Challenge.rw_og0075_01 := by
  k_fill
  intro P; exact ⟨rfl, rfl⟩

inductive RootΨ (P : Params) (r : Value) (o : Obj) (tl : List (Addr × Obj)) : Prop
  | mk : ∀ x n ks vs' n', (r = .ref x) → (o = listOf vs'.toArray n') → (PoolOk vs') → (KidsR (fun a o => (a, o) ∈ tl) P .none (.cons x n ks .nil)) → ((n.us = Str.ofString "" ∧ n.Ok)) → (ks.UsOk) → (ks.Bd 3) → (ks.tops.length ≤ 2) → ((x :: ks.addrs).Nodup) → RootΨ P r o tl
noncomputable abbrev rootNd : Nd := ⟨1, Str.ofString "R", Str.ofString "", Str.ofString "", false⟩
theorem root_end {P : Params} {g h' : Heap} {L pa x dx kl cl : Addr} {vs : List Value} {n kn cn en : Nat} {tk : Nat → Tok} {ks : G} {ex : List (Addr × Obj)}
    (N : News g L h' ((pa, listOf vs.toArray n) :: (x, instObj 88 dx) :: (dx, dictOf (nodeEs P tk rootNd .none cl kl .none) en) :: (kl, listOf (ks.tops.map Value.ref).toArray kn) :: (cl, listOf #[] cn) :: ex))
    (ok : PoolOk vs) (l1 : @LT.lt Nat _ pa dx) (l2 : @LT.lt Nat _ dx x) (l3 : @LT.lt Nat _ x cl) (l4 : @LT.lt Nat _ cl kl) (l5 : ∀ q ∈ ex, q.1 ≠ pa ∧ q.1 ≠ x ∧ q.1 ≠ dx ∧ q.1 ≠ kl ∧ q.1 ≠ cl)
    (hocc : OccR (fun a o => (a, o) ∈ ex) P rootNd.occ .none) (hk : KidsR (fun a o => (a, o) ∈ ex) P (.ref x) ks) (h1 : ks.UsOk) (h2 : ks.Bd 3) (h3 : ks.tops.length ≤ 2) (h4 : ks.addrs.Nodup) :
    ∃ tl, News g L h' tl ∧ ∃ o' tl', tl = (pa, o') :: tl' ∧ (∀ q ∈ tl', q.1 ≠ pa) ∧ RootΨ P (.ref x) o' tl' := by
  obtain ⟨tl, N1, o', tl', e1, e2, x', n', ks', dx', cl', kl', tk', occ', en', kn', cn', vs', n'', ex', f1, f2, f3, f4, f5, f6, f7, f8, f9, f10, f11, f12, f13, f14, f15⟩ := grown_end N ok l1 l2 l3 l4 l5 hocc hk ⟨fun _ => rfl, soR, so0, so0⟩ h1 h2 h3 h4
  refine ⟨_, N, _, _, rfl, ?_, x, rootNd, ks, vs, n, rfl, rfl, ok, ⟨⟨dx, kl, cl, tk, .none, en, kn, cn, .head _, .tail _ (.head _), .tail _ (.tail _ (.tail _ (.head _))), .tail _ (.tail _ (.head _)), OccR.no⟩, hk.mono fun a o h => .tail _ (.tail _ (.tail _ (.tail _ h))), trivial⟩, ⟨rfl, soR, so0, so0⟩, h1, h2, h3, ?_⟩
  · intro q hq e
    have e' : @Eq Nat q.1 pa := e
    simp only [List.mem_cons] at hq
    rcases hq with h | h | h | h | h
    · rw [h] at e'; dsimp only at e'; exact ar325 l2 l1 e'
    · rw [h] at e'; dsimp only at e'; exact ar308 l1 e'
    · rw [h] at e'; dsimp only at e'; exact ar324 l3 l1 l2 l4 e'
    · rw [h] at e'; dsimp only at e'; exact ar323 l2 l1 l3 e'
    · exact (l5 q h).1 e
  · refine List.nodup_cons.mpr ⟨fun hx => ?_, h4⟩
    obtain ⟨o, ho⟩ := kidsR_addr hk x hx
    exact (l5 _ ho).2.1 rfl

inductive RootM (Pm : Params) (g : Heap) (L' P : Addr) (vs : List Value) (n : Nat) (s : Shared) (s' : Shared) : Prop
  | mk : ∀ h' tk' x dx cl kl tkN en, (s' = { s with heap := h', toks := tk' }) → (Fr g L' h' (fun y => if y = Str.ofString "root" then some (.ref x) else [(Str.ofString "pool", .ref P)].lookup y)) → (News g L' h' ((P, listOf vs.toArray n) :: (x, instObj 88 dx) :: (dx, dictOf (nodeEs Pm tkN rootNd .none cl kl .none) en) :: (kl, listOf #[] 0) :: (cl, listOf #[] 0) :: [])) → (@LT.lt Nat _ P dx) → (@LT.lt Nat _ dx x) → (@LT.lt Nat _ x cl) → (@LT.lt Nat _ cl kl) → RootM Pm g L' P vs n s s'
theorem root_ {prog : Program} {w : World} {A : Around} {s : Shared} {p : Program} {loose : List Str} {mean : ExcName → Option Value} {mg mb : Str → Option Value} {hB : Heap} {P : Addr} {n : Nat} {vs : List Value} (X : (hd.heap_39 w.params).In hB) (T : Top p loose mean mg mb hB) (st : hB.StaysIn s.heap) (hP : s.heap.get? P = some (listOf vs.toArray n)) (hP0 : hB.get? P = none) (ok : PoolOk vs)
   (hdp : A.depth + 20 < recursionLimit) (hh : A.handled = none) : DoesP prog w A P (call (.ref 158) [.ref P]) s (RootΨ w.params) := by
  intro Q E k
  have hH : ∀ q ∈ [(P, listOf vs.toArray n)], s.heap.get? q.1 = some q.2 ∧ hB.get? q.1 = none := by
    intro q hq; rw [List.mem_singleton.mp hq]; exact ⟨hP, hP0⟩
  have hroom : A.depth < recursionLimit := by exact ar332 hdp
  have ih : GrownSpec 2 := @grown_ 2
  refine' enterF (binds := [(Str.ofString "pool", .ref P)]) (rb := [(Str.ofString "pool", .ref P)]) X T st hH hroom ?ho ?hcd ?hb ?hl ?hr ?_ ?c2 ?c3 ?c4 ?c5
  case ho => k_is
  case hcd => k_is
  case hb => exact BindsTo.of_eq rfl
  case hl => exact locs rfl
  case hr => exact rfl
  case c2 => exact rfl
  case c3 => exact rfl
  case c4 => exact rfl
  case c5 => decide
  intro g L' h₁ F1 N1 X1 T1 st1 up dn
  refine execs_cutN (RootM w.params g L' P vs n s) 1 ?_ ?_
  · dsimp only [List.take]
    k_fold
    k_steps
    exact ⟨⟨_, _, _, _, _, _, _, _, rfl, by assumption, perm5 (by assumption), by assumption, by assumption, by assumption, by assumption⟩⟩
  · rintro s' ⟨h2, tk2, x, dx, cl, kl, tkN, en, rfl, F2, N2, l1, l2, l3, l4⟩
    dsimp only [List.drop]
    clear F1 N1
    k_with "pyIter ref" => (refine stop_here ?_)
    try k_fold
    k_steps
    refine ⟨?_⟩
    rename IsRange _ _ _ _ _ _ _ _ => R9
    rename Fr g L' _ _ => F9
    rename News g L' _ _ => N9
    k_with_none
    with_unfolding_all refine for_range (GrownI w.params P x dx cl kl tkN rootNd .none en 3 (fun y => if y = Str.ofString "root" then some (.ref x) else [(Str.ofString "pool", .ref P)].lookup y)) hh R9 (small_one (by omega) (by omega) (by omega) (by omega)) range_size F9 N9 ⟨_, _, _, .nil, _, rfl, by assumption, fun _ _ => rfl, OccR.no, trivial, trivial, trivial, rfl, List.nodup_nil, fun _ h => nomatch h⟩ ?_ ?_
    · rintro i ti m₁ news₁ h3 tk3 J oJ hi hJ ⟨vs3, n3, kn, ks, ex3, rfl, ok3, hm, ho3, hk3, hu3, hb3, hlen, hnd, hap⟩ hoff F3 N3
      have em : (fun y => if y = Str.ofString "turn" then some (Value.int (0 + (i : Int)) ti) else m₁ y) = fun y => if y = Str.ofString "turn" then some (Value.int (0 + (i : Int)) ti) else if y = Str.ofString "root" then some (.ref x) else [(Str.ofString "pool", .ref P)].lookup y := by
        funext y
        by_cases hy : y = Str.ofString "turn"
        · simp only [if_pos hy]
        · simp only [if_neg hy]; exact hm y hy
      rw [em] at F3
      clear F9 N9 R9 em
      k_lt hJ
      change Fr g L' _ _ at F3
      change News g L' _ _ at N3
      have hap1 : ∀ q ∈ ex3, q.1 ≠ P := fun q hq => (hap q hq).1
      k_with "call ref" => ((with_reducible show wpAny _ _ (call (Value.ref 66) _ _) _ _ _); refine stop_here ?_)
      k_with "call ref" => ((with_reducible show wpAny _ _ (call (Value.ref 151) _ _) _ _ _); refine stop_here ?_)
      k_steps
      refine ⟨?_⟩
      rename Fr g L' _ _ => F5
      rename News g L' _ _ => N5
      k_dflt (refine' grown_K ih F5 X1 T1 N5 ?U ?ok ?so ?hdeep ?hdp ?hh ?_)
      case U => k_updF
      case ok => assumption
      case so => assumption
      case hdeep => exact ar333
      case hdp => show A.depth + 1 + 4 * 2 + 4 < recursionLimit; exact ar334 hdp
      case hh => exact hh
      intro y nd5 ks5 dy cl5 kl5 tk5 occ5 en5 kn5 cn5 vs5 n5 ex5 h5 tk5' ok5 z1 z2 z3 z4 z5 z6 z7 z8 z9 z10 z11 F6 N6 a6
      clear F5 N5
      simp only [List.cons_append] at N6
      simp only [List.forall_mem_cons] at a6
      obtain ⟨a7, a8⟩ := a6
      obtain ⟨c1, c2, c3, c4, c5, c6, c7, c8⟩ := a7
      try k_fold
      k_steps
      refine ⟨?_⟩
      rename Fr g L' _ _ => F7
      rename News g L' _ _ => N7
      have hsz : ((ks.tops.map Value.ref).toArray).size < 24 := by simp only [List.size_toArray, List.length_map]; omega
      have m5 : ∀ q ∈ ex5, q.1 ≠ P ∧ q.1 ≠ x ∧ q.1 ≠ dx ∧ q.1 ≠ kl ∧ q.1 ≠ cl := fun q hq => by
        obtain ⟨_, _, b3, b4, b5, b6, b7, _⟩ := a8 q hq
        exact ⟨b3.symm, b4.symm, b5.symm, b6.symm, b7.symm⟩
      have e4 := z1 _ z2
      have hy5 := m5 _ z2
      refine add_ F7 X1 T1 (by show A.depth + 1 + 2 < recursionLimit; exact ar335 hdp) (News.sub N7 (l' := (x, instObj 88 dx) :: (dx, dictOf (nodeEs w.params tkN rootNd .none cl kl .none) en) :: (kl, listOf (ks.tops.map Value.ref).toArray kn) :: (y, instObj 88 dy) :: (dy, dictOf (nodeEs w.params tk5 nd5 occ5 cl5 kl5 .none) en5) :: (P, listOf vs5.toArray n5) :: (J, oJ) :: (cl, listOf #[] 0) :: (ex3 ++ ex5)) ?_) hsz c4.symm c5.symm c6.symm (fun e => e4 e.symm) ?_ (fun e => ?_) (fun e => ?_) (fun e => hy5.2.2.2.1 e.symm) ?_ ?_
      · intro p hp
        simp only [List.mem_cons, List.mem_append] at hp ⊢
        rcases hp with h | h | h | h | h | h | h | h | h | h
        · simp only [h, true_or, or_true]
        · simp only [h, true_or, or_true]
        · simp only [h, true_or, or_true]
        · rw [h]; simp only [z2, or_true]
        · simp only [h, true_or, or_true]
        · simp only [h, true_or, or_true]
        · simp only [h, true_or, or_true]
        · simp only [h, true_or, or_true]
        · simp only [h, true_or, or_true]
        · simp only [h, or_true]
      · intro q hq
        simp only [List.mem_cons, List.mem_append] at hq
        rcases hq with h | h | h | h | h
        · rw [h]; exact c3
        · rw [h]; exact c2
        · rw [h]; exact c7
        · exact c8 q h
        · exact z1 q h
      · exact ar325 l4 l3 e
      · exact ar323 l3 l2 l4 e
      · intro q hq e
        have e' : @Eq Nat q.1 kl := e
        simp only [List.mem_cons, List.mem_append] at hq
        rcases hq with h | h | h | h | h
        · rw [h] at e'; dsimp only at e'; exact ar329 l3 l1 l2 l4 e'
        · rw [h] at e'; dsimp only at e'; exact ar336 hJ e'
        · rw [h] at e'; dsimp only at e'; exact ar330 l4 e'
        · exact (hap q h).2.2.2.1 e
        · exact (m5 q h).2.2.2.1 e
      · intro h9 tk9 F9 N9
        clear F7 N7
        have ea : (ks.tops.map Value.ref).toArray.push (.ref y) = ((ks.snoc y nd5 ks5).tops.map Value.ref).toArray := by rw [tops_snoc]; simp
        rw [ea] at N9
        k_steps
        have hnd5 : (ks.snoc y nd5 ks5).addrs.Nodup := by
          rw [addrs_snoc]
          refine List.nodup_append.mpr ⟨hnd, z11, fun a ha b hb e => ?_⟩
          obtain ⟨o1, q1⟩ := kidsR_addr hk3 a ha
          have q2 : ∃ o2, (b, o2) ∈ ex5 := by
            rcases List.mem_cons.mp hb with h | h
            · rw [h]; exact ⟨_, z2⟩
            · exact kidsR_addr z6 b h
          obtain ⟨o2, q2⟩ := q2
          obtain ⟨_, _, _, _, _, _, _, b8⟩ := a8 _ q2
          exact b8 _ q1 e
        have sub3 : ∀ a o, (a, o) ∈ ex3 → (a, o) ∈ (dy, dictOf (nodeEs w.params tk5 nd5 occ5 cl5 kl5 (Value.ref x)) en5) :: (ex3 ++ ex5) := fun a o h => .tail _ (List.mem_append_left _ h)
        have sub5 : ∀ a o, (a, o) ∈ ex5 → (a, o) ∈ (dy, dictOf (nodeEs w.params tk5 nd5 occ5 cl5 kl5 (Value.ref x)) en5) :: (ex3 ++ ex5) := fun a o h => .tail _ (List.mem_append_right _ h)
        refine ⟨⟨_, _, _, (P, listOf vs5.toArray n5) :: (x, instObj 88 dx) :: (dx, dictOf (nodeEs w.params tkN rootNd .none cl kl Value.none) en) :: (kl, listOf ((ks.snoc y nd5 ks5).tops.map Value.ref).toArray (kn + 1)) :: (cl, listOf #[] 0) :: ((dy, dictOf (nodeEs w.params tk5 nd5 occ5 cl5 kl5 (Value.ref x)) en5) :: (ex3 ++ ex5)), rfl, F9, News.sub N9 ?_, ?_, ?_⟩⟩
        · intro p hp
          exact (by walk_at "mine subs" : ∀ z ∈ _, z ∈ _) p hp
        · intro q hq e
          have e' : @Eq Nat q.1 J := e
          simp only [List.mem_cons, List.mem_append] at hq
          rcases hq with h | h | h | h | h | h | h | h
          · rw [h] at e'; dsimp only at e'; exact ar337 hJ e'
          · rw [h] at e'; dsimp only at e'; exact ar338 hJ e'
          · rw [h] at e'; dsimp only at e'; exact ar339 hJ e'
          · rw [h] at e'; dsimp only at e'; exact ar340 hJ e'
          · rw [h] at e'; dsimp only at e'; exact ar341 hJ e'
          · rw [h] at e; exact c2 e.symm
          · exact hoff q (.tail _ (.tail _ (.tail _ (.tail _ (.tail _ h))))) e
          · obtain ⟨_, b2, _⟩ := a8 q h
            exact b2 e.symm
        · refine ⟨vs5, n5, kn + 1, ks.snoc y nd5 ks5, _, rfl, ok5, fun z hz => if_neg hz, ho3.mono sub3, kidsR_snoc ⟨dy, kl5, cl5, tk5, occ5, en5, kn5, cn5, sub5 _ _ z2, .head _, sub5 _ _ z3, sub5 _ _ z4, z5.mono sub5⟩ (z6.mono sub5) (hk3.mono sub3), usOk_snoc z7 z8 hu3, bd_snoc z10 z9 hb3, ?_, hnd5, ?_⟩
          · rw [tops_snoc, List.length_append, hlen]; rfl
          · intro q hq
            simp only [List.mem_cons, List.mem_append] at hq
            rcases hq with h | h | h
            · rw [h]; exact ⟨c3.symm, c4.symm, c5.symm, c6.symm, c7.symm⟩
            · exact hap q h
            · exact m5 q h
    · rintro m₁ news₁ h3 tk3 ⟨vs3, n3, kn, ks, ex3, rfl, ok3, hm, ho3, hk3, hu3, hb3, hlen, hnd, hap⟩ F3 N3
      have em : m₁ = fun y => if y = Str.ofString "turn" then m₁ y else if y = Str.ofString "root" then some (.ref x) else [(Str.ofString "pool", .ref P)].lookup y := by
        funext y
        by_cases hy : y = Str.ofString "turn"
        · simp only [if_pos hy]
        · simp only [if_neg hy]; exact hm y hy
      rw [em] at F3
      clear F9 N9 R9
      change Fr g L' _ _ at F3
      change News g L' _ _ at N3
      k_steps
      obtain ⟨tl, N4, o3, tl3, e3, hn3, hg3⟩ := root_end N3 ok3 l1 l2 l3 l4 hap ho3 hk3 hu3 hb3 (by omega) hnd
      exact k _ _ _ _ (leaveFresh F3 N4 up).1 (leaveFresh F3 N4 up).2 ⟨o3, tl3, e3, hn3, hg3⟩
end
end
section
-- C1
open PySem.Spec

theorem inst_keeps {h h' : Heap} {x C : Addr} {ox : Obj} {od : Option Obj} (I : PySem.W.InstAt h x ox C od) (k : ∀ b o, h.get? b = some o → h'.get? b = some o) : PySem.W.InstAt h' x ox C od := by
  refine ⟨k _ _ I.at_, I.cls, I.no, ?_⟩
  have := I.dict
  revert this
  cases ox.dict <;> cases od <;> intro h <;> first | exact h | exact k _ _ h

theorem inst_keeps2 {h g h' : Heap} {L x C : Addr} {m : Str → Option Value} {ox : Obj} {od : Option Obj} (I : PySem.W.InstAt h x ox C od) (S : h.StaysIn g) (F : Fr g L h' m) : PySem.W.InstAt h' x ox C od := inst_keeps I fun b o e => F.keep b o (S b o e)
section
variable {prog : Program} {w : World} {A : Around} {s : Shared}

/-- what a comprehension's turn leaves -/
noncomputable def TurnC (g : Heap) (C D J : Addr) (o : Obj) (keep : List (Addr × Obj)) (I : List (Addr × Obj) → Prop) (dn : Nat) (acc : List Value) (s s₂ : Shared) : Prop :=
  ∃ h' tk m' news', s₂ = { s with heap := h', toks := tk } ∧ Fr g C h' m' ∧ News g C h' ((D, listOf acc.toArray dn) :: (J, o) :: (keep ++ news')) ∧ (∀ p ∈ news', p.1 ≠ J ∧ p.1 ≠ D) ∧ I news'

noncomputable def NoE : Value → Shared → Prop := fun _ _ => False

theorem comp_loop {R : Result → Shared → Prop} {elt target iter : Expr} {ifs : List Expr} {scope : Scope} {pos : Pos} {cenv : Env} {g : Heap} {J D : Addr} {fp : List Addr} {n : Nat} {P : Nat → Value → Prop} {St : Nat → Heap → Prop} {m₀ : Str → Option Value} {news keep : List (Addr × Obj)} {o₀ : Obj}
    (I : Nat → List Value → List (Addr × Obj) → Prop)
    (W : Walks prog w A J fp [J] n P St) (hfp : ∀ b ∈ fp, b = J ∨ (∃ q, g.get? b = some q) ∨ ∃ o, (b, o) ∈ keep) (hob : ∀ i h, St i h → ∃ o, h.get? J = some o)
    (hkJ : ∀ p ∈ keep, p.1 ≠ J ∧ p.1 ≠ D) (hDJ : D ≠ J) (hLf : cenv.locals ∉ fp) (hLJ : cenv.locals ≠ J) (hJ0 : g.get? J = none) (hnw : ∀ p ∈ news, p.1 ≠ J ∧ p.1 ≠ D) (hst : St 0 s.heap) (F : Fr g cenv.locals s.heap m₀) (N : News g cenv.locals s.heap ((D, listOf #[] 0) :: (J, o₀) :: (keep ++ news))) (h0 : I 0 [] news)
    (hlen : ∀ i acc news, I i acc news → acc.length ≤ sizeLine)
    (turn : ∀ i v m₁ acc dn news₁ h tk o, i < n → P i v → I i acc news₁ → (∀ p ∈ news₁, p.1 ≠ J ∧ p.1 ≠ D) → Fr g cenv.locals h m₁ → News g cenv.locals h ((D, listOf acc.toArray dn) :: (J, o) :: (keep ++ news₁)) →
      wpAny (model prog w) A (assign target cenv v) (fun _ s₂ => wpAny (model prog w) A (forIn ifs true fun c r => if r = true then do let ok ← isTrue c cenv (eval c cenv); pure (ForInStep.yield ok) else pure (ForInStep.yield r)) (fun ok s₃ =>
        if ok = true then wpAny (model prog w) A (eval elt cenv) (fun y s₄ => Stop (TurnC g cenv.locals D J o keep (fun news' => I (i + 1) (acc ++ [y]) news') dn acc s s₄)) NoE s₃
        else Stop (TurnC g cenv.locals D J o keep (fun news' => I (i + 1) acc news') dn acc s s₃)) NoE s₂) NoE { s with heap := h, toks := tk })
    (hR : ∀ h' tk m' acc dn news', I n acc news' → Fr g cenv.locals h' m' → News g cenv.locals h' ((D, listOf acc.toArray dn) :: (keep ++ news')) → (∀ p ∈ news', p.1 ≠ J ∧ p.1 ≠ D) → R (.ok .next) { s with heap := h', toks := tk })
    (ht : ∀ v, letOwnedTupleGo target (.ref J) v = pure () := by intro _; rfl) :
    codeAny (model prog w) A (.compLoop (.ListComp elt [⟨target, iter, ifs, 0⟩] scope pos) 0 (.ref J) (.ref D) cenv) R s := by
  refine codeAny_compLoop_tests
    (fun k s' => ∃ h' tk m' acc dn news' o i, s' = { s with heap := h', toks := tk } ∧ St i h' ∧ Fr g cenv.locals h' m' ∧ News g cenv.locals h' ((D, listOf acc.toArray dn) :: (J, o) :: (keep ++ news')) ∧ (∀ p ∈ news', p.1 ≠ J ∧ p.1 ≠ D) ∧ I i acc news' ∧ i ≤ n ∧ k = n + 1 - i) ?_ (n + 1)
    ⟨s.heap, s.toks, m₀, [], 0, news, o₀, 0, rfl, hst, F, N, hnw, h0, Nat.zero_le _, rfl⟩ ht
  rintro k s' ⟨h', tk, m', acc, dn, news', o, i, rfl, hst', F', N', hnw', hI, hi, rfl⟩
  have next : ∀ h₁ : Heap, (∀ b o, b ∉ [J] → h'.get? b = some o → h₁.get? b = some o) → Fr g cenv.locals h₁ m' ∧ News g cenv.locals h₁ ((D, listOf acc.toArray dn) :: (keep ++ news')) := by
    intro h₁ hk₁
    refine ⟨⟨F'.ns.at' fun o e => hk₁ _ o (fun h => hLJ (List.mem_singleton.mp h)) e, fun b o e => hk₁ b o (fun h => by rw [List.mem_singleton.mp h, hJ0] at e; cases e) (F'.keep b o e), F'.above⟩, fun p hp => ?_⟩
    rcases List.mem_cons.mp hp with rfl | hp
    · have z := N' _ (.head _)
      exact ⟨hk₁ _ _ (fun h => hDJ (List.mem_singleton.mp h)) z.1, z.2⟩
    · have z := N' p (.tail _ (.tail _ hp))
      refine ⟨hk₁ _ _ (fun h => ?_) z.1, z.2⟩
      rcases List.mem_append.mp hp with hp | hp
      · exact (hkJ p hp).1 (List.mem_singleton.mp h)
      · exact (hnw' p hp).1 (List.mem_singleton.mp h)
  by_cases hlt : i < n
  · refine W.item i _ _ _ hlt hst' fun v h₁ tk₁ hP hst₁ hk₁ => ?_
    obtain ⟨F₁, N₁⟩ := next h₁ hk₁
    obtain ⟨o₁, ho₁⟩ := hob _ _ hst₁
    have N₂ : News g cenv.locals h₁ ((D, listOf acc.toArray dn) :: (J, o₁) :: (keep ++ news')) := by
      intro p hp
      rcases List.mem_cons.mp hp with rfl | hp
      · exact N₁ _ (.head _)
      · rcases List.mem_cons.mp hp with rfl | hp
        · exact ⟨ho₁, fun e => hLJ e.symm, hJ0⟩
        · exact N₁ _ (.tail _ hp)
    -- the state behind the turn is the iterator's next one
    have hfin : ∀ h₂ : Heap, ∀ m₂ news₂, Fr g cenv.locals h₂ m₂ → News g cenv.locals h₂ ((J, o₁) :: (keep ++ news₂)) → St (i + 1) h₂ := by
      intro h₂ m₂ news₂ F₂ N₃
      refine W.frame _ _ _ hst₁ fun b hb o e => ?_
      rcases hfp b hb with rfl | ⟨q, hq⟩ | ⟨q, hq⟩
      · rw [ho₁] at e; cases e; exact (N₃ _ (.head _)).1
      · have := F₁.keep b q hq; rw [e] at this; cases this; exact F₂.keep b _ hq
      · have := (N₁ (b, q) (.tail _ (List.mem_append_left _ hq))).1; rw [e] at this; cases this
        exact (N₃ (b, _) (.tail _ (List.mem_append_left _ hq))).1
    refine wpAny_mono (turn i v m' acc dn news' h₁ tk₁ o₁ hlt hP hI hnw' F₁ N₂) (fun _ s₂ h₂ => wpAny_mono h₂ (fun ok s₃ h₃ => ?_) fun _ _ e => e.elim) fun _ _ e => e.elim
    cases ok with
    | false =>
      obtain ⟨⟨h₄, tk₄, m₄, news₄, rfl, F₄, N₄, a₄, I₄⟩⟩ := h₃
      exact ⟨n + 1 - (i + 1), by exact ar377 hi, h₄, tk₄, m₄, acc, dn, news₄, o₁, i + 1, rfl, hfin _ _ _ F₄ (fun p hp => N₄ p (.tail _ hp)), F₄, N₄, a₄, I₄, hlt, rfl⟩
    | true =>
      refine wpAny_mono h₃ (fun y s₄ h₄ => ?_) fun _ _ e => e.elim
      obtain ⟨⟨h₅, tk₅, m₅, news₅, rfl, F₅, N₅, a₅, I₅⟩⟩ := h₄
      have hz := hlen _ _ _ hI
      refine append_K (its := acc.toArray) (n := dn) F₅ N₅ (Upd.head fun p hp => ?_) (fun h₆ F₆ N₆ => ?_) (by rw [List.size_toArray]; exact hz)
      · rcases List.mem_cons.mp hp with rfl | hp
        · exact fun e => hDJ e.symm
        · rcases List.mem_append.mp hp with hp | hp
          · exact (hkJ p hp).2
          · exact (a₅ p hp).2
      · have ea : acc.toArray.push y = (acc ++ [y]).toArray := by simp
        rw [ea] at N₆
        exact ⟨n + 1 - (i + 1), by exact ar377 hi, h₆, tk₅, m₅, acc ++ [y], dn + 1, news₅, o₁, i + 1, rfl, hfin _ _ _ F₆ (fun p hp => N₆ p (.tail _ hp)), F₆, N₆, a₅, I₅, hlt, rfl⟩
  · have hin : i = n := by exact ar378 hi hlt
    subst hin
    refine W.done _ _ _ hst' fun h₁ tk₁ hk₁ => ?_
    obtain ⟨F₁, N₁⟩ := next h₁ hk₁
    exact hR h₁ tk₁ m' acc dn news' hI F₁ N₁ hnw'

/-- the block of a comprehension, from the made iterator on -/
theorem comp_at {E : Value → Shared → Prop} {K : Frag} {p : Program} {loose : List Str} {mean : ExcName → Option Value} {mg mb : Str → Option Value} {elt target iter : Expr} {ifs : List Expr} {scope : Scope} {pos : Pos} {env : Env} {h₀ : Heap} {L J : Addr} {m : Str → Option Value} {fp : List Addr} {n : Nat} {P : Nat → Value → Prop} {St : Nat → Heap → Prop} {news keep : List (Addr × Obj)} {o₀ : Obj}
    {RR : Value → Env → Result → Shared → Prop} (I : Nat → List Value → List (Addr × Obj) → Prop)
    (F : Fr h₀ L s.heap m) (X : K.In h₀) (T : Top p loose mean mg mb h₀) (N : News h₀ L s.heap ((J, o₀) :: (keep ++ news)))
    (W : Walks prog w A J fp [J] n P St) (hfp : ∀ b ∈ fp, b = J ∨ (∃ q, h₀.get? b = some q) ∨ ∃ o, (b, o) ∈ keep) (hob : ∀ i h, St i h → ∃ o, h.get? J = some o) (hst : St 0 s.heap)
    (hkJ : ∀ q ∈ keep ++ news, q.1 ≠ J)
    (hcell : ∀ y ∈ scope.names, y.2 ≠ .cell) (hkind : scope.kind = .function) (h0 : I 0 [] news) (hlen : ∀ i acc news, I i acc news → acc.length ≤ sizeLine)
    (turn : ∀ g C D i v m₁ acc dn news₁ h tk o, K.In g → Top p loose mean mg mb g → h₀.StaysIn g → (∀ b o, b ∉ J :: (keep ++ news).map (·.1) → s.heap.get? b = some o → g.get? b = some o) → (∀ q ∈ (J, o₀) :: (keep ++ news), @LT.lt Nat _ q.1 D) →
      i < n → P i v → I i acc news₁ → (∀ p ∈ news₁, p.1 ≠ J ∧ p.1 ≠ D) → Fr g C h m₁ → News g C h ((D, listOf acc.toArray dn) :: (J, o) :: (keep ++ news₁)) →
      wpAny (model prog w) A (assign target (compEnv scope C env) v) (fun _ s₂ => wpAny (model prog w) A (forIn ifs true fun c r => if r = true then do let ok ← isTrue c (compEnv scope C env) (eval c (compEnv scope C env)); pure (ForInStep.yield ok) else pure (ForInStep.yield r)) (fun ok s₃ =>
        if ok = true then wpAny (model prog w) A (eval elt (compEnv scope C env)) (fun y s₄ => Stop (TurnC g C D J o keep (fun news' => I (i + 1) (acc ++ [y]) news') dn acc s s₄)) NoE s₃
        else Stop (TurnC g C D J o keep (fun news' => I (i + 1) acc news') dn acc s s₃)) NoE s₂) NoE { s with heap := h, toks := tk })
    (done : ∀ C D h' tk m' acc dn news', h'.Ns C m' → s.heap.get? C = none → (∀ q ∈ (J, o₀) :: (keep ++ news), @LT.lt Nat _ q.1 D) → I n acc news' → (∀ h'', Heap.SameBut C h' h'' → Fr h₀ L h'' m ∧ News h₀ L h'' ((D, listOf acc.toArray dn) :: (keep ++ news'))) → (∀ q ∈ (D, listOf acc.toArray dn) :: (keep ++ news'), q.1 ≠ C) → RR (.ref D) (compEnv scope C env) (.ok .next) { s with heap := h', toks := tk })
    (ht : ∀ v, letOwnedTupleGo target (.ref J) v = pure () := by intro _; rfl) :
    wpAny (model prog w) A (newList []) (fun acc s₃ => wpAny (model prog w) A (newFunctionEnv scope env.globals [] [] env.qual none .none (some env)) (fun cenv s₄ =>
      codeAny (model prog w) A (.compStart (.ListComp elt [⟨target, iter, ifs, 0⟩] scope pos) 0 (.ref J) acc { cenv with scope := scope }) (RR acc { cenv with scope := scope }) s₄) E s₃) E s := by
  refine wpAny_newObj_type (wpAny_newFunctionEnv hcell (by intro y hy; simp at hy) (fun h₁ hns₁ hsb₁ => ?_) hkind)
  dsimp only at hns₁ hsb₁ ⊢
  generalize hH2 : s.heap.push { cls := .type "list", dict := none, data := .seq ([] : List Value).toArray } = H2 at hns₁ hsb₁ ⊢
  have hC : H2.objs.size = s.heap.objs.size + 1 := by rw [← hH2, Heap.size_push]
  have hDC : s.heap.objs.size ≠ H2.objs.size := by rw [hC]; exact Nat.ne_of_lt (Nat.lt_succ_self _)
  have hJs : J < s.heap.objs.size := Heap.lt_size (N _ (.head _)).1
  have below : ∀ b, b < s.heap.objs.size → b ≠ H2.objs.size ∧ b ≠ s.heap.objs.size := fun b hb => ⟨by rw [hC]; exact Nat.ne_of_lt (Nat.lt_succ_of_lt hb), Nat.ne_of_lt hb⟩
  have old : ∀ b o, s.heap.get? b = some o → h₁.get? b = some o := fun b o e => hsb₁.extBut b o (below b (Heap.lt_size e)).1 (Heap.get?_push_of_some _ (hH2 ▸ Heap.get?_push_of_some _ e))
  have hacc : h₁.get? s.heap.objs.size = some (listOf #[] 0) := hsb₁.extBut _ _ hDC (Heap.get?_push_of_some _ (hH2 ▸ Heap.get?_push_size _ rfl))
  let hid : List Addr := J :: (keep ++ news).map (·.1)
  let g : Heap := hideAll s.heap hid
  have nm : ∀ b o, h₀.get? b = some o → b ∉ hid := fun b o e q => by
    rcases List.mem_cons.mp q with rfl | q
    · have := (N _ (.head _)).2.2; rw [this] at e; cases e
    · obtain ⟨z, hz, rfl⟩ := List.mem_map.mp q
      have := (N z (.tail _ hz)).2.2; rw [this] at e; cases e
  have gup : ∀ b o, b ∉ hid → s.heap.get? b = some o → g.get? b = some o := fun b o hb e => hideAll_get _ e hb
  have gst : h₀.StaysIn g := fun b o e => gup b o (nm b o e) (F.keep b o e)
  have gsz : g.objs.size = s.heap.objs.size := hideAll_size _ _
  have gdn : ∀ b o, g.get? b = some o → s.heap.get? b = some o := fun b o e => of_hideAll _ e
  have gnone : ∀ b, s.heap.objs.size ≤ b → g.get? b = none := fun b hb => Heap.get?_none_of_le (by rw [gsz]; exact hb)
  have Fg : Fr g H2.objs.size h₁ (fun x => ([] : List (Str × Value)).reverse.lookup x) := ⟨hns₁, fun b o e => old b o (gdn b o e), by rw [gsz, hC]; exact Nat.le_succ _⟩
  have Ng : News g H2.objs.size h₁ ((s.heap.objs.size, listOf #[] 0) :: (J, o₀) :: (keep ++ news)) := by
    intro q hq
    rcases List.mem_cons.mp hq with rfl | hq
    · exact ⟨hacc, hDC, gnone _ (Nat.le_refl _)⟩
    · have z := N q hq
      refine ⟨old _ _ z.1, (below _ (Heap.lt_size z.1)).1, hideAll_none _ ?_⟩
      rcases List.mem_cons.mp hq with rfl | hq
      · exact .head _
      · exact .tail _ (List.mem_map_of_mem hq)
  have hst₁ : St 0 h₁ := W.frame _ _ _ hst fun b _ o e => old b o e
  have hlt : ∀ q ∈ (J, o₀) :: (keep ++ news), @LT.lt Nat _ q.1 s.heap.objs.size := fun q hq => Heap.lt_size (N q hq).1
  have hLobj : ∃ oL, s.heap.get? L = some oL ∧ g.get? L = some oL ∧ ∃ es ep, oL.data = .dict es ep ∧ (∀ k ∈ es.toList.map (·.key), True) := by
    obtain ⟨oL, es, ep, hL, hd, _⟩ := F.ns
    refine ⟨oL, hL, gup L oL (fun q => ?_) hL, es, ep, hd, fun _ _ => trivial⟩
    rcases List.mem_cons.mp q with e | q
    · exact (N _ (.head _)).2.1 e.symm
    · obtain ⟨z, hz, e⟩ := List.mem_map.mp q
      exact (N z (.tail _ hz)).2.1 e
  have loop : ∀ s₃ : Shared, s₃ = { s with heap := h₁, toks := s.toks + ([] : List (Str × Value)).length } →
      codeAny (model prog w) A (.compLoop (.ListComp elt [⟨target, iter, ifs, 0⟩] scope pos) 0 (.ref J) (.ref s.heap.objs.size) (compEnv scope H2.objs.size env)) (RR (.ref s.heap.objs.size) (compEnv scope H2.objs.size env)) s₃ := by
    rintro s₃ rfl
    refine comp_loop (cenv := compEnv scope H2.objs.size env) I W ?_ hob (fun q hq => ⟨hkJ q (List.mem_append_left _ hq), Nat.ne_of_lt (hlt q (.tail _ (List.mem_append_left _ hq)))⟩) (fun e => Nat.ne_of_lt hJs e.symm) ?_ ?_ ?_ (fun q hq => ⟨hkJ q (List.mem_append_right _ hq), Nat.ne_of_lt (hlt q (.tail _ (List.mem_append_right _ hq)))⟩) hst₁ Fg Ng h0 hlen ?_ ?_ ht
    · intro b hb
      rcases hfp b hb with e | ⟨q, hq⟩ | e
      · exact .inl e
      · exact .inr (.inl ⟨q, gst b q hq⟩)
      · exact .inr (.inr e)
    · intro hm
      rcases hfp _ hm with e | ⟨q, hq⟩ | ⟨o, ho⟩
      · have e' : H2.objs.size = J := e
        exact (below J hJs).1 e'.symm
      · exact (below _ (Heap.lt_size (F.keep _ _ hq))).1 rfl
      · exact (below _ (Heap.lt_size (N (_, o) (.tail _ (List.mem_append_left _ ho))).1)).1 rfl
    · intro e
      have e' : H2.objs.size = J := e
      exact (below J hJs).1 e'.symm
    · exact hideAll_none _ (.head _)
    · intro i v m₁ acc dn news₁ h tk o hi hP hI ha F₁ N₁
      exact turn g H2.objs.size s.heap.objs.size i v m₁ acc dn news₁ h tk o (X.keeps fun b o e => gst b o e) (T.keeps fun b o e => gst b o e) gst gup hlt hi hP hI ha F₁ N₁
    · intro h' tk m' acc dn news' hI F' N' ha
      refine done H2.objs.size s.heap.objs.size h' tk m' acc dn news' F'.ns (Heap.get?_none_of_le (by rw [hC]; exact Nat.le_succ _)) hlt hI (fun h'' hs => ?_) (fun q hq => (N' q hq).2.1)
      obtain ⟨oL, hL, hLg, _⟩ := hLobj
      have hLC : L ≠ H2.objs.size := (below L (Heap.lt_size hL)).1
      have up'' : ∀ b o, b ≠ H2.objs.size → h'.get? b = some o → h''.get? b = some o := fun b o hb e => hs.extBut b o hb e
      refine ⟨⟨?_, fun b o e => up'' b o (below b (Heap.lt_size (F.keep b o e))).1 (F'.keep b o (gst b o e)), F.above⟩, fun q hq => ⟨up'' _ _ (N' q hq).2.1 (N' q hq).1, fun e => ?_, ?_⟩⟩
      · exact F.ns.at' fun o e => by
          have e2 : g.get? L = some o := gup L o (fun q => by
            rcases List.mem_cons.mp q with e | q
            · exact (N _ (.head _)).2.1 e.symm
            · obtain ⟨z, hz, e⟩ := List.mem_map.mp q
              exact (N z (.tail _ hz)).2.1 e) e
          exact up'' L o hLC (F'.keep L o e2)
      · have := (N' q hq).2.2; rw [e, hLg] at this; cases this
      · cases y : h₀.get? q.1 with
        | none => rfl
        | some o => have := (N' q hq).2.2; rw [gst _ _ y] at this; cases this
  exact codeAny_compStart_list (loop _ rfl) (W.self 0 _ _ _ hst₁ (loop _ rfl))
end
end
section
-- C2
open PySem.Spec

section
variable {prog : Program} {w : World} {A : Around} {s : Shared} {E : Value → Shared → Prop} {K : Frag} {p : Program} {loose : List Str} {mean : ExcName → Option Value} {mg mb : Str → Option Value} {elt iter : Expr} {ifs : List Expr} {scope : Scope} {pos px : Pos} {env : Env} {h₀ : Heap} {L : Addr} {m : Str → Option Value} {x : Str}

noncomputable def CompRest (prog : Program) (w : World) (A : Around) (env : Env) (elt target iter : Expr) (ifs : List Expr) (scope : Scope) (pos : Pos) (RR : Value → Env → Result → Shared → Prop) (E : Value → Shared → Prop) (it : Value) (s : Shared) : Prop :=
  wpAny (model prog w) A (newList []) (fun acc s₃ => wpAny (model prog w) A (newFunctionEnv scope env.globals [] [] env.qual none .none (some env)) (fun cenv s₄ =>
      codeAny (model prog w) A (.compStart (.ListComp elt [⟨target, iter, ifs, 0⟩] scope pos) 0 it acc { cenv with scope := scope }) (RR acc { cenv with scope := scope }) s₄) E s₃) E s
noncomputable def RRe (M : Model) (A : Around) (Q : Value → Shared → Prop) (E : Value → Shared → Prop) (acc : Value) (cenv : Env) (r : Result) (s' : Shared) : Prop :=
  ∃ m, s'.heap.Ns cenv.locals m ∧ ∀ h', Heap.SameBut cenv.locals s'.heap h' →
            match r with | .ok _ => Q acc { s' with heap := h' } | .error x => wpAny M A (passOn "comprehension.variables-let-go" x cenv) Q E { s' with heap := h' }
theorem comp_eval {target : Expr} {Q : Value → Shared → Prop} (hfree : ∀ y ∈ scope.names, y.2 ≠ .free) (hkind : scope.kind = .function) (hnames : ∀ y ∈ scope.names, y.2 = .local → scope.names.lookup y.1 = some .local)
    (h : wpAny (model prog w) A (eval iter env) (fun xv s₁ => wpAny (model prog w) A (pyIter xv) (fun it s₂ => CompRest prog w A env elt target iter ifs scope pos (RRe (model prog w) A Q E) E it s₂) E s₁) E s)
    (hs : ∀ x, foldedSetIterable iter env x = pure x := by intro _; rfl) :
    wpAny (model prog w) A (eval (.ListComp elt [⟨target, iter, ifs, 0⟩] scope pos) env) Q E s := wpAny_ListComp hfree hkind hnames h hs

/-- a turn whose target is a name -/
theorem turn_name {g : Heap} {C : Addr} {v : Value} {m₁ : Str → Option Value} {led : List (Addr × Obj)} {Q : Unit → Shared → Prop} {E : Value → Shared → Prop} (hx : scope.names.lookup x = some .local) (hkind : scope.kind = .function) (F : Fr g C s.heap m₁) (N : News g C s.heap led)
    (k : ∀ h', Fr g C h' (fun y => if y = x then some v else m₁ y) → News g C h' led → Q () { s with heap := h', toks := s.toks + 1 }) : wpAny (model prog w) A (assign (.Name x px) (compEnv scope C env) v) Q E s :=
  wpAny_assign_Name (wpAny_storeName_local (env := compEnv scope C env) hx F.ns (fun h' hn hs => k h' (F.set hn hs) (N.set hs)) (by show (scope.kind == .class || (scope.kind == .module && _)) = false; rw [hkind]; rfl))

theorem fin_eval {I : List Value → List (Addr × Obj) → Prop} {all keep : List (Addr × Obj)} {Q : Value → Shared → Prop}
    (k : ∀ D h' tk acc dn news', I acc news' → Fr h₀ L h' m → News h₀ L h' ((D, listOf acc.toArray dn) :: (keep ++ news')) → (∀ q ∈ all, @LT.lt Nat _ q.1 D) → Q (.ref D) { s with heap := h', toks := tk }) :
    ∀ C D h' tk m' acc dn news', h'.Ns C m' → s.heap.get? C = none → (∀ q ∈ all, @LT.lt Nat _ q.1 D) → I acc news' → (∀ h'', Heap.SameBut C h' h'' → Fr h₀ L h'' m ∧ News h₀ L h'' ((D, listOf acc.toArray dn) :: (keep ++ news'))) → (∀ q ∈ (D, listOf acc.toArray dn) :: (keep ++ news'), q.1 ≠ C) →
      RRe (model prog w) A Q E (.ref D) (compEnv scope C env) (.ok .next) { s with heap := h', toks := tk } :=
  fun C D h' tk m' acc dn news' hn _ hlt hI hh _ => ⟨m', hn, fun h'' hs => k D h'' tk acc dn news' hI (hh h'' hs).1 (hh h'' hs).2 hlt⟩

end
end
section
-- C3
open PySem.Spec

section
variable {prog : Program} {w : World} {A : Around} {s : Shared} {E : Value → Shared → Prop} {K : Frag} {p : Program} {loose : List Str} {mean : ExcName → Option Value} {mg mb : Str → Option Value} {elt target iter : Expr} {ifs : List Expr} {scope : Scope} {pos px : Pos} {env : Env} {h₀ : Heap} {L : Addr} {m : Str → Option Value} {x : Str}
  {RR : Value → Env → Result → Shared → Prop} {news : List (Addr × Obj)}

noncomputable def CompTurn (prog : Program) (w : World) (A : Around) (env : Env) (elt : Expr) (ifs : List Expr) (scope : Scope) (g : Heap) (C D J : Addr) (o : Obj) (keep : List (Addr × Obj)) (dn : Nat) (acc : List Value) (s : Shared) (Iy : Value → List (Addr × Obj) → Prop) (In : List (Addr × Obj) → Prop) (s₂ : Shared) : Prop :=
  wpAny (model prog w) A (forIn ifs true fun c r => if r = true then do let ok ← isTrue c (compEnv scope C env) (eval c (compEnv scope C env)); pure (ForInStep.yield ok) else pure (ForInStep.yield r)) (fun ok s₃ =>
        if ok = true then wpAny (model prog w) A (eval elt (compEnv scope C env)) (fun y s₄ => Stop (TurnC g C D J o keep (Iy y) dn acc s s₄)) NoE s₃
        else Stop (TurnC g C D J o keep In dn acc s s₃)) NoE s₂

noncomputable def CompDone (h₀ : Heap) (L : Addr) (m : Str → Option Value) (scope : Scope) (env : Env) (RR : Value → Env → Result → Shared → Prop) (all keep : List (Addr × Obj)) (I : List Value → List (Addr × Obj) → Prop) (s : Shared) : Prop :=
  ∀ C D h' tk m' acc dn news', h'.Ns C m' → s.heap.get? C = none → (∀ q ∈ all, @LT.lt Nat _ q.1 D) → I acc news' → (∀ h'', Heap.SameBut C h' h'' → Fr h₀ L h'' m ∧ News h₀ L h'' ((D, listOf acc.toArray dn) :: (keep ++ news'))) → (∀ q ∈ (D, listOf acc.toArray dn) :: (keep ++ news'), q.1 ≠ C) → RR (.ref D) (compEnv scope C env) (.ok .next) { s with heap := h', toks := tk }

theorem turn_noif {g : Heap} {C D J : Addr} {o : Obj} {keep : List (Addr × Obj)} {dn : Nat} {acc : List Value} {Iy : Value → List (Addr × Obj) → Prop} {In : List (Addr × Obj) → Prop} {s₂ : Shared}
    (h : wpAny (model prog w) A (eval elt (compEnv scope C env)) (fun y s₄ => Stop (TurnC g C D J o keep (Iy y) dn acc s s₄)) NoE s₂) : CompTurn prog w A env elt [] scope g C D J o keep dn acc s Iy In s₂ := by
  unfold CompTurn
  show wpAny _ _ (pure true) _ _ _
  refine wpAny_pure ?_
  rw [if_pos rfl]
  exact h
theorem turn_if1 {c : Expr} {g : Heap} {C D J : Addr} {o : Obj} {keep : List (Addr × Obj)} {dn : Nat} {acc : List Value} {Iy : Value → List (Addr × Obj) → Prop} {In : List (Addr × Obj) → Prop} {s₂ : Shared}
    (h : wpAny (model prog w) A (isTrue c (compEnv scope C env) (eval c (compEnv scope C env))) (fun ok s₃ => if ok = true then wpAny (model prog w) A (eval elt (compEnv scope C env)) (fun y s₄ => Stop (TurnC g C D J o keep (Iy y) dn acc s s₄)) NoE s₃ else Stop (TurnC g C D J o keep In dn acc s s₃)) NoE s₂) : CompTurn prog w A env elt [c] scope g C D J o keep dn acc s Iy In s₂ := by
  unfold CompTurn
  rw [List.forIn_cons]
  refine wpAny_bind ?_
  rw [if_pos rfl]
  refine wpAny_bind (wpAny_mono h (fun ok s₃ h₃ => wpAny_pure ?_) fun _ _ e => e)
  dsimp only
  rw [List.forIn_nil]
  exact wpAny_pure h₃
theorem ldC {Q : Value → Shared → Prop} {E : Value → Shared → Prop} {C : Addr} {v : Value} {npos : Pos} (F : Fr h₀ C s.heap m) (hv : m x = some v) (h : Q v s) (hk : scope.kind = .function) (hl : scope.names.lookup x = some .local) (hd : (x == ("__debug__" : Str)) = false) :
    wpAny (model prog w) A (eval (.Name x npos) (compEnv scope C env)) Q E s := wpAny_Name (wpAny_loadName_local (env := compEnv scope C env) hk hl F.ns hv h) hd
theorem comp_srcH {ax : Addr} {vs : List Value} (I : Nat → List Value → List (Addr × Obj) → Prop) (hh : A.handled = none) (F : Fr h₀ L s.heap m) (X : K.In h₀) (T : Top p loose mean mg mb h₀) (N : News h₀ L s.heap news) (hl : h₀.IsList ax vs.toArray)
    (hcell : ∀ y ∈ scope.names, y.2 ≠ .cell) (hkind : scope.kind = .function) (h0 : I 0 [] news) (hlen : ∀ i acc news, I i acc news → acc.length ≤ sizeLine)
    (turn : ∀ g C D J i v m₁ acc dn news₁ h tk o, K.In g → Top p loose mean mg mb g → h₀.StaysIn g → (∀ b o, b ∉ news.map (·.1) → s.heap.get? b = some o → g.get? b = some o) → (∀ q ∈ news, @LT.lt Nat _ q.1 J) → @LT.lt Nat _ J D → vs[i]? = some v → I i acc news₁ → (∀ p ∈ news₁, p.1 ≠ J ∧ p.1 ≠ D) → Fr g C h m₁ → News g C h ((D, listOf acc.toArray dn) :: (J, o) :: news₁) →
      wpAny (model prog w) A (assign target (compEnv scope C env) v) (fun _ s₂ => CompTurn prog w A env elt ifs scope g C D J o [] dn acc s (fun y => I (i + 1) (acc ++ [y])) (I (i + 1) acc) s₂) NoE { s with heap := h, toks := tk })
    (done : ∀ h2 J, h₀.StaysIn h2 → Fr h₀ L h2 m → (∀ q ∈ news, @LT.lt Nat _ q.1 J) → ∀ o, CompDone h₀ L m scope env RR ((J, o) :: news) [] (I vs.length) { s with heap := h2 })
    (ht : ∀ J v, letOwnedTupleGo target (.ref J) v = pure () := by intro _ _; rfl) :
    wpAny (model prog w) A (pyIter (.ref ax)) (fun it s₂ => CompRest prog w A env elt target iter ifs scope pos RR E it s₂) E s := by
  have hls : s.heap.IsList ax vs.toArray := hl.at fun o e => F.keep ax o e
  obtain ⟨ol, hol, _⟩ := id hl
  have hlt : ax < h₀.objs.size := Heap.lt_size hol
  have hne : ax ≠ s.heap.objs.size := Nat.ne_of_lt (Nat.lt_trans (Nat.lt_of_lt_of_le hlt F.above) F.ns.lt)
  refine wpAny_pyIter_list hls ?_
  have W := Walks.list (prog := prog) (w := w) hh s.heap.objs.size ax hne vs.toArray
  rw [List.size_toArray] at W
  have hJ0 : ∀ q ∈ news, @LT.lt Nat _ q.1 s.heap.objs.size := fun q hq => Heap.lt_size (N q hq).1
  refine comp_at (K := K) (p := p) (loose := loose) (mean := mean) (mg := mg) (mb := mb) (keep := []) (news := news) (o₀ := { cls := .type "list_iterator", data := .fields #[.ref ax, rawInt 0] }) I (F.push _) X T ?_ W ?_ ?_ ?_ ?_ hcell hkind h0 hlen ?_ ?_ (ht _)
  · intro q hq
    rcases List.mem_cons.mp hq with rfl | hq
    · exact ⟨Heap.get?_push_size _ rfl, (Nat.ne_of_lt F.ns.lt).symm, next_is_new F⟩
    · exact ⟨Heap.get?_push_of_some _ (N q hq).1, (N q hq).2⟩
  · intro b hb
    rcases List.mem_cons.mp hb with e | hb
    · exact .inl e
    · exact .inr (.inl ⟨ol, (List.mem_singleton.mp hb) ▸ hol⟩)
  · rintro i h ⟨⟨o, ho, _⟩, _⟩
    exact ⟨o, ho⟩
  · exact ⟨⟨_, Heap.get?_push_size _ rfl, rfl, rfl⟩, hls.at fun o e => Heap.get?_push_of_some _ e⟩
  · intro q hq; exact Nat.ne_of_lt (hJ0 q hq)
  · intro g C D i v m₁ acc dn news₁ h tk o Xg Tg st up lt hi hP hI ha F₁ N₁
    refine turn g C D _ i v m₁ acc dn news₁ h tk o Xg Tg st (fun b o hb e => up b o (fun hm => ?_) (Heap.get?_push_of_some _ e)) hJ0 (lt _ (.head _)) (by simpa using hP) hI ha F₁ N₁
    rcases List.mem_cons.mp hm with rfl | hm
    · exact absurd (Heap.lt_size e) (Nat.lt_irrefl _)
    · exact hb hm
  · exact done _ _ (fun b o e => Heap.get?_push_of_some _ (F.keep b o e)) (F.push _) hJ0 _
end
end
section
-- S1
open PySem.Spec
section
variable {prog : Program} {w : World} {A : Around} {E : Value → Shared → Prop} {s : Shared} {κ : SortKind} {kf : Keyed → Nat} {arr0 arr : Array Keyed} {pend : Array (Nat × Nat × Nat)}

/-- asking for the order of two keys answers as numbers do, and leaves all as it was -/
noncomputable def CmpOk (prog : Program) (w : World) (A : Around) (s : Shared) (κ : SortKind) (kf : Keyed → Nat) (arr0 : Array Keyed) : Prop :=
  ∀ x y, x ∈ arr0.toList → y ∈ arr0.toList → ∀ (Q : Bool → Shared → Prop) (E : Value → Shared → Prop), Q (decide (kf x < kf y)) s → wpAny (model prog w) A (keyLt' κ x.1 y.1) Q E s
noncomputable abbrev MK (κ : SortKind) (pend : Array (Nat × Nat × Nat)) (arr : Array Keyed) : SortSt := SortSt.mk' κ arr pend 7 none
noncomputable def KA (kf : Keyed → Nat) (arr : Array Keyed) (i : Nat) : Nat := match arr[i]? with | some x => kf x | none => 0
theorem KA_congr {a b : Array Keyed} {i j : Nat} (h : a[i]? = b[j]?) : KA kf a i = KA kf b j := by unfold KA; rw [h]
noncomputable def SegS (kf : Keyed → Nat) (arr : Array Keyed) (a b : Nat) : Prop := ∀ i j, a ≤ i → i < j → j < b → KA kf arr i < KA kf arr j
theorem at_perm (hp : arr.Perm arr0) {i : Nat} (hi : i < arr.size) : ∃ x, arr[i]? = some x ∧ x ∈ arr0.toList ∧ KA kf arr i = kf x := by
  refine ⟨arr[i], by simp [hi], ?_, by unfold KA; simp [hi]⟩
  have : arr[i] ∈ arr.toList := by simp
  exact (Array.perm_iff_toList_perm.mp hp).mem_iff.mp this
theorem KA_ne (hnd : (arr0.toList.map kf).Nodup) (hp : arr.Perm arr0) {i j : Nat} (hi : i < arr.size) (hj : j < arr.size) (hne : i ≠ j) : KA kf arr i ≠ KA kf arr j := by
  have h1 : (arr.toList.map kf).Nodup := ((Array.perm_iff_toList_perm.mp hp).map kf).nodup_iff.mpr hnd
  have e1 : KA kf arr i = (arr.toList.map kf)[i]'(by simpa using hi) := by unfold KA; simp [hi]
  have e2 : KA kf arr j = (arr.toList.map kf)[j]'(by simpa using hj) := by unfold KA; simp [hj]
  rw [e1, e2]
  exact fun e => hne ((List.getElem_inj h1).mp e)

theorem lt_c (hc : CmpOk prog w A s κ kf arr0) (hp : arr.Perm arr0) {i j : Nat} (hi : i < arr.size) (hj : j < arr.size) {Q : Option Bool → SortSt → Prop} (h : Q (some (decide (KA kf arr i < KA kf arr j))) (MK κ pend arr)) :
    wpS (model prog w) A E s (ltAt' i j) Q (MK κ pend arr) := by
  obtain ⟨x, hx, mx, ex⟩ := at_perm (kf := kf) hp hi
  obtain ⟨y, hy, my, ey⟩ := at_perm (kf := kf) hp hj
  rw [ltAt'_eq]
  refine wpS_bind (wpS_get ?_)
  show wpS _ _ _ _ (do let x ← elem' arr i; let y ← elem' arr j; lt' x y) Q _
  rw [elem'_eq, elem'_eq, hx, hy]
  refine wpS_bind (wpS_pure (wpS_bind (wpS_pure ?_)))
  rw [lt'_eq]
  refine wpS_bind (wpS_get ?_)
  rw [ex, ey] at h
  refine wpS_bind (wpS_lift (wpAny_attempt (hc x y mx my _ _ ⟨rfl, ?_⟩)))
  exact wpS_pure h
theorem rev_c {i j : Nat} {Q : Unit → SortSt → Prop} (h : Q () (MK κ pend (mirror arr i j ((j - i) / 2)))) : wpS (model prog w) A E s (reverseSlice' i j) Q (MK κ pend arr) := by
  rw [reverseSlice'_eq]
  exact wpS_modify h
theorem move_c {i j : Nat} {Q : Unit → SortSt → Prop} (h : Q () (MK κ pend (bubble arr i (i - j)))) : wpS (model prog w) A E s (moveDown' i j) Q (MK κ pend arr) := by
  rw [moveDown'_eq]
  exact wpS_modify h

inductive CountΨ (κ : SortKind) (pend : Array (Nat × Nat × Nat)) (kf : Keyed → Nat) (arr0 arr : Array Keyed) (lo nrem : Nat) (r : Option Nat) (st' : SortSt) : Prop
  | mk : ∀ m arr', (r = some m) → (1 ≤ m) → (m ≤ nrem) → (st' = MK κ pend arr') → (arr'.Perm arr0) → (SegS kf arr' lo (lo + m)) → ((∀ i, i < lo → arr'[i]? = arr[i]?)) → ((∀ i, lo + nrem ≤ i → arr'[i]? = arr[i]?)) → ((KA kf arr lo < KA kf arr (lo + 1) → arr' = arr ∧ (m = nrem ∨ KA kf arr (lo + m) < KA kf arr (lo + m - 1)))) → CountΨ κ pend kf arr0 arr lo nrem r st'

theorem count_c (hc : CmpOk prog w A s κ kf arr0) (hnd : (arr0.toList.map kf).Nodup) (hp : arr.Perm arr0) {lo nrem : Nat} (h1 : 1 ≤ nrem) (hz : lo + nrem ≤ arr.size) :
    wpS (model prog w) A E s (countRun' lo nrem) (CountΨ κ pend kf arr0 arr lo nrem) (MK κ pend arr) := by
  rw [countRun'_eq]
  have asc : ∀ (arr' : Array Keyed) (n0 : Nat), arr'.Perm arr0 → 1 ≤ n0 → n0 ≤ nrem → SegS kf arr' lo (lo + n0) → ∀ {Q : Option (Option Nat) × Nat → SortSt → Prop} {body : Nat → Option (Option Nat) × Nat → StateT SortSt Sem (ForInStep (Option (Option Nat) × Nat))},
      (∀ i c, body i c = (do
        let __x ← ltAt' (lo + c.2) (lo + c.2 - 1)
        match __x with
        | some smaller => if smaller = true then pure (ForInStep.done (none, c.2)) else pure (ForInStep.yield (none, c.2 + 1))
        | _ => pure (ForInStep.done (some none, c.2)))) →
      (∀ m, n0 ≤ m → m ≤ nrem → SegS kf arr' lo (lo + m) → (m = nrem ∨ KA kf arr' (lo + m) < KA kf arr' (lo + m - 1)) → Q (none, m) (MK κ pend arr')) →
      wpS (model prog w) A E s (forIn [n0:nrem] ((none, n0) : Option (Option Nat) × Nat) body) Q (MK κ pend arr') := by
    intro arr' n0 hp' hn1 hn2 hs0 Q body hb hQ
    have hsz : arr'.size = arr.size := (hp'.trans hp.symm).size_eq
    refine wpS_forRange (I := fun i c st => c = (none, i) ∧ st = MK κ pend arr' ∧ SegS kf arr' lo (lo + i)) ?_ ?_ ⟨rfl, rfl, hs0⟩
    · rintro i c st hi1 hi2 ⟨rfl, rfl, hs⟩
      rw [hb]
      refine wpS_bind (lt_c hc hp' (by dsimp only; exact ar71 hz hi2 hsz) (by dsimp only; exact ar72 hz h1 hi2 hsz) ?_)
      dsimp only
      by_cases hlt : KA kf arr' (lo + i) < KA kf arr' (lo + i - 1)
      · rw [decide_eq_true hlt, if_pos rfl]
        exact wpS_pure (hQ i hi1 (by exact ar73 hi2) hs (.inr hlt))
      · rw [decide_eq_false hlt, if_neg (by decide)]
        refine wpS_pure ⟨rfl, rfl, fun a b h1 h2 h3 => ?_⟩
        have hne := KA_ne (kf := kf) hnd hp' (i := lo + i) (j := lo + i - 1) (by exact ar71 hz hi2 hsz) (by omega) (by exact ar74 hn1 hi1)
        rcases Nat.lt_or_ge b (lo + i) with q | q
        · exact hs a b h1 h2 q
        · have eb : b = lo + i := by exact ar75 h3 q
          subst eb
          rcases Nat.lt_or_ge a (lo + i - 1) with q2 | q2
          · have := hs a (lo + i - 1) h1 q2 (by omega)
            exact ar76 this hlt
          · have ea : a = lo + i - 1 := by exact ar77 hz h2 h1 hi1 q2
            subst ea; exact ar78 hne hlt
    · rintro c st ⟨rfl, rfl, hs⟩
      have e : max n0 nrem = nrem := by exact ar79 hn2
      rw [e] at hs ⊢
      exact hQ nrem hn2 (Nat.le_refl _) hs (.inl rfl)
  have seg1 : ∀ arr' : Array Keyed, SegS kf arr' lo (lo + 1) := fun arr' i j h1 h2 h3 => by exact ar80 h3 h2 h1
  refine wpS_bind (asc arr 1 hp (Nat.le_refl _) h1 (seg1 arr) (fun _ _ => rfl) fun m hm1 hm2 hs hend => ?_)
  dsimp only
  by_cases e1 : (m == nrem) = true
  · rw [if_pos e1]
    exact wpS_pure ⟨m, arr, rfl, hm1, hm2, rfl, hp, hs, fun _ _ => rfl, fun _ _ => rfl, fun _ => ⟨rfl, hend⟩⟩
  · rw [if_neg e1]
    have hmn : m ≠ nrem := fun e => e1 (by simp [e])
    have hdown : KA kf arr (lo + m) < KA kf arr (lo + m - 1) := hend.resolve_left hmn
    by_cases e2 : m > 1
    · rw [if_pos e2]
      refine wpS_bind (lt_c hc hp (by exact ar81 hz h1) (by exact ar82 hz h1 hm2) ?_)
      have := hs lo (lo + m - 1) (Nat.le_refl _) (by exact ar83 e2) (by exact ar84 hm1)
      rw [decide_eq_true this]
      dsimp only
      rw [if_pos rfl]
      exact wpS_pure ⟨m, arr, rfl, hm1, hm2, rfl, hp, hs, fun _ _ => rfl, fun _ _ => rfl, fun _ => ⟨rfl, hend⟩⟩
    · rw [if_neg e2]
      have em : m = 1 := by exact ar85 hm1 e2
      subst em
      refine wpS_bind (wpS_lift (wpAny_rule ⟨rfl, ?_⟩))
      have hn2 : 2 ≤ nrem := by exact ar86 hmn h1
      refine wpS_bind (wpS_mono (wpS_forRange (I := fun i c st => c = ((none, i, 0) : Option (Option Nat) × Nat × Nat) ∧ st = MK κ pend arr ∧ (∀ a b, lo ≤ a → a < b → b < lo + i → KA kf arr b < KA kf arr a))
        (Q := fun c st => ∃ m, c = ((none, m, 0) : Option (Option Nat) × Nat × Nat) ∧ 2 ≤ m ∧ m ≤ nrem ∧ st = MK κ pend arr ∧ (∀ a b, lo ≤ a → a < b → b < lo + m → KA kf arr b < KA kf arr a)) ?_ ?_ ⟨rfl, rfl, ?_⟩) ?_)
      · rintro i c st hi1 hi2 ⟨rfl, rfl, hs⟩
        have hi1 : 2 ≤ i := hi1
        dsimp only
        refine wpS_bind (lt_c hc hp (by exact ar87 hz hi2) (by exact ar88 hz h1 hi2) ?_)
        by_cases hlt : KA kf arr (lo + i) < KA kf arr (lo + i - 1)
        · rw [decide_eq_true hlt]
          dsimp only
          rw [if_pos rfl, if_neg (by decide)]
          refine wpS_pure ⟨rfl, rfl, fun a b h1 h2 h3 => ?_⟩
          rcases Nat.lt_or_ge b (lo + i) with q | q
          · exact hs a b h1 h2 q
          · have eb : b = lo + i := by exact ar75 h3 q
            subst eb
            rcases Nat.lt_or_ge a (lo + i - 1) with q2 | q2
            · have := hs a (lo + i - 1) h1 q2 (by omega)
              exact ar89 this hlt
            · have ea : a = lo + i - 1 := by omega
              subst ea; exact hlt
        · rw [decide_eq_false hlt]
          dsimp only
          rw [if_neg (by decide)]
          have hne := KA_ne (kf := kf) hnd hp (i := lo + i) (j := lo + i - 1) (by exact ar87 hz hi2) (by exact ar88 hz h1 hi2) (by omega)
          refine wpS_bind (lt_c hc hp (by exact ar88 hz h1 hi2) (by exact ar87 hz hi2) ?_)
          rw [decide_eq_true (by exact ar78 hne hlt : KA kf arr (lo + i - 1) < KA kf arr (lo + i))]
          dsimp only
          rw [if_pos rfl]
          exact wpS_pure ⟨i, rfl, hi1, by exact ar73 hi2, rfl, hs⟩
      · rintro c st ⟨rfl, rfl, hs⟩
        exact ⟨max 2 nrem, rfl, by exact ar90, by exact ar91 hn2, rfl, hs⟩
      · intro a b h1 h2 h3
        have ea : a = lo := by exact ar92 h3 h2 h1
        have eb : b = lo + 1 := by exact ar93 h3 h2 h1
        subst ea eb
        simpa using hdown
      · rintro c st ⟨m, rfl, hm2, hmn2, rfl, hs⟩
        dsimp only
        rw [if_neg (by decide)]
        refine wpS_bind (rev_c ?_)
        have hget : ∀ k, (mirror arr lo (lo + m) ((lo + m - lo) / 2))[k]? = if lo ≤ k ∧ k < lo + m then arr[lo + (lo + m) - 1 - k]? else arr[k]? := fun k => getElem?_mirror_all (i := lo) (j := lo + m) (by exact ar94 hz hmn2) k
        have hpm : (mirror arr lo (lo + m) ((lo + m - lo) / 2)).Perm arr0 := (mirror_perm _ _ _ _).trans hp
        have hseg : SegS kf (mirror arr lo (lo + m) ((lo + m - lo) / 2)) lo (lo + m) := by
          intro a b h1 h2 h3
          have ka : KA kf (mirror arr lo (lo + m) ((lo + m - lo) / 2)) a = KA kf arr (lo + (lo + m) - 1 - a) := KA_congr (by rw [hget, if_pos ⟨h1, by exact ar95 hm2 h3 h2⟩])
          have kb : KA kf (mirror arr lo (lo + m) ((lo + m - lo) / 2)) b = KA kf arr (lo + (lo + m) - 1 - b) := KA_congr (by rw [hget, if_pos ⟨by exact ar96 h2 h1, h3⟩])
          rw [ka, kb]
          exact hs _ _ (by exact ar97 h3) (by exact ar98 h3 h2) (by exact ar99 hm2 h1)
        refine wpS_bind (asc _ m hpm (by exact ar100 hm2) hmn2 hseg (fun _ _ => rfl) fun n hn1 hn2' hsn hendn => ?_)
        refine wpS_pure ⟨n, _, rfl, by exact ar101 hm2 hn1, hn2', rfl, hpm, hsn, fun i hi => ?_, fun i hi => ?_, fun h => ?_⟩
        · rw [hget, if_neg (by exact ar102 hi)]
        · rw [hget, if_neg (by exact ar103 hi hmn2)]
        · exfalso
          have : KA kf arr (lo + 1) < KA kf arr (lo + 1 - 1) := hdown
          rw [show lo + 1 - 1 = lo by exact ar104 hz] at this
          exact ar30 this h

inductive BinΨ (κ : SortKind) (pend : Array (Nat × Nat × Nat)) (kf : Keyed → Nat) (arr0 arr : Array Keyed) (lo n : Nat) (r : Bool) (st' : SortSt) : Prop
  | mk : ∀ arr', (r = true) → (st' = MK κ pend arr') → (arr'.Perm arr0) → (SegS kf arr' lo (lo + n)) → ((∀ i, i < lo → arr'[i]? = arr[i]?)) → ((∀ i, lo + n ≤ i → arr'[i]? = arr[i]?)) → BinΨ κ pend kf arr0 arr lo n r st'

theorem bin_c (hc : CmpOk prog w A s κ kf arr0) (hnd : (arr0.toList.map kf).Nodup) (hp : arr.Perm arr0) {lo n ok : Nat} (h1 : 1 ≤ ok) (h2 : ok ≤ n) (hz : lo + n ≤ arr.size) (hs : SegS kf arr lo (lo + ok)) :
    wpS (model prog w) A E s (binarySort' lo n ok) (BinΨ κ pend kf arr0 arr lo n) (MK κ pend arr) := by
  rw [binarySort'_eq]
  have em : max ok 1 = ok := by exact ar105 h1
  rw [em]
  refine wpS_bind (wpS_mono (wpS_forRange (I := fun k c st => c = ((none, ()) : Option Bool × Unit) ∧ ∃ arr', st = MK κ pend arr' ∧ arr'.Perm arr0 ∧ SegS kf arr' lo (lo + k) ∧ (∀ i, i < lo → arr'[i]? = arr[i]?) ∧ (∀ i, lo + k ≤ i → arr'[i]? = arr[i]?))
    (Q := fun c st => c = ((none, ()) : Option Bool × Unit) ∧ ∃ arr', st = MK κ pend arr' ∧ arr'.Perm arr0 ∧ SegS kf arr' lo (lo + n) ∧ (∀ i, i < lo → arr'[i]? = arr[i]?) ∧ (∀ i, lo + n ≤ i → arr'[i]? = arr[i]?)) ?_ ?_ ⟨rfl, arr, rfl, hp, hs, fun _ _ => rfl, fun _ _ => rfl⟩) ?_)
  · rintro k c st hk1 hk2 ⟨rfl, arr', rfl, hp', hs', hlow, hhigh⟩
    have hsz : arr'.size = arr.size := (hp'.trans hp.symm).size_eq
    refine wpS_bind (wpS_mono (wpS_forRange (I := fun i c st => ∃ l r, c = ((none, l, r) : Option Bool × Nat × Nat) ∧ st = MK κ pend arr' ∧ l ≤ r ∧ r ≤ k ∧ r + i ≤ l + k ∧ (∀ j, j < l → KA kf arr' (lo + j) < KA kf arr' (lo + k)) ∧ (∀ j, r ≤ j → j < k → KA kf arr' (lo + k) < KA kf arr' (lo + j)))
      (Q := fun c st => ∃ l, c = ((none, l, l) : Option Bool × Nat × Nat) ∧ st = MK κ pend arr' ∧ l ≤ k ∧ (∀ j, j < l → KA kf arr' (lo + j) < KA kf arr' (lo + k)) ∧ (∀ j, l ≤ j → j < k → KA kf arr' (lo + k) < KA kf arr' (lo + j))) ?_ ?_ ⟨0, k, rfl, rfl, Nat.zero_le _, Nat.le_refl _, by exact ar106, fun j h => absurd h (Nat.not_lt_zero _), fun j h h' => by exact ar107 h' h⟩) ?_)
    · rintro i c st hi1 hi2 ⟨l, r, rfl, rfl, hlr, hrk, hms, ha, hb⟩
      dsimp only
      by_cases hge : l ≥ r
      · rw [if_pos hge]
        have : l = r := by exact ar108 hlr hge
        subst this
        exact wpS_pure ⟨l, rfl, rfl, hrk, ha, hb⟩
      · rw [if_neg hge]
        refine wpS_bind (lt_c hc hp' (by exact ar71 hz hk2 hsz) (by exact ar109 hz hk2 hsz hrk hlr) ?_)
        have hne := KA_ne (kf := kf) hnd hp' (i := lo + k) (j := lo + (l + r) / 2) (by exact ar71 hz hk2 hsz) (by exact ar109 hz hk2 hsz hrk hlr) (by exact ar110 hrk hge)
        by_cases hlt : KA kf arr' (lo + k) < KA kf arr' (lo + (l + r) / 2)
        · rw [decide_eq_true hlt]
          dsimp only
          rw [if_pos rfl]
          refine wpS_pure ⟨l, (l + r) / 2, rfl, rfl, by exact ar111 hlr, by exact ar112 hrk hlr, by exact ar113 hms hi2, ha, fun j h1 h2 => ?_⟩
          rcases Nat.lt_or_ge ((l + r) / 2) j with q | q
          · have := hs' (lo + (l + r) / 2) (lo + j) (by exact ar114 hlt) (by exact ar115 q) (by exact ar58 h2)
            exact ar89 this hlt
          · have : j = (l + r) / 2 := by exact ar116 h1 q
            subst this; exact hlt
        · rw [decide_eq_false hlt]
          dsimp only
          rw [if_neg (by decide)]
          refine wpS_pure ⟨(l + r) / 2 + 1, r, rfl, rfl, by exact ar117 hge, by exact ar31 hrk, by exact ar118 hms hi2, fun j h1 => ?_, hb⟩
          rcases Nat.lt_or_ge j ((l + r) / 2) with q | q
          · have := hs' (lo + j) (lo + (l + r) / 2) (by exact ar32) (by exact ar119 q) (by exact ar120 hrk hge)
            exact ar76 this hlt
          · have : j = (l + r) / 2 := by exact ar121 h1 q
            subst this; exact ar78 hne hlt
    · rintro c st ⟨l, r, rfl, rfl, hlr, hrk, hms, ha, hb⟩
      have : l = r := by exact ar122 hms hlr
      subst this
      exact ⟨l, rfl, rfl, hrk, ha, hb⟩
    · rintro c st ⟨l, rfl, rfl, hlk, ha, hb⟩
      dsimp only
      refine wpS_bind (move_c ?_)
      have hget : ∀ x : Nat, (bubble arr' (lo + k) (lo + k - (lo + l)))[x]? = if x = lo + k - (lo + k - (lo + l)) then arr'[lo + k]? else if lo + k - (lo + k - (lo + l)) < x ∧ x ≤ lo + k then arr'[x - 1]? else arr'[x]? := fun x => getElem?_bubble (by exact ar71 hz hk2 hsz) _ (by exact ar123 hlk) x
      have e1 : lo + k - (lo + k - (lo + l)) = lo + l := by exact ar124 hz hlk
      rw [e1] at hget
      have kAt : ∀ x : Nat, KA kf (bubble arr' (lo + k) (lo + k - (lo + l))) x = if x = lo + l then KA kf arr' (lo + k) else if lo + l < x ∧ x ≤ lo + k then KA kf arr' (x - 1) else KA kf arr' x := by
        intro x
        have hx := hget x
        by_cases q1 : x = lo + l
        · rw [if_pos q1] at hx ⊢; exact KA_congr hx
        · rw [if_neg q1] at hx ⊢
          by_cases q2 : lo + l < x ∧ x ≤ lo + k
          · rw [if_pos q2] at hx ⊢; exact KA_congr hx
          · rw [if_neg q2] at hx ⊢; exact KA_congr hx
      refine wpS_pure ⟨rfl, _, rfl, (bubble_perm _ _ _).trans hp', ?_, fun i hi => ?_, fun i hi => ?_⟩
      · intro a b h1 h2 h3
        rw [kAt a, kAt b]
        by_cases a1 : a = lo + l
        · rw [if_pos a1, if_neg (by exact ar125 h2 a1), if_pos (by exact ar126 h3 h2 a1 hlk h1)]
          have := hb (b - 1 - lo) (by exact ar127 h2 a1 h1) (by exact ar128 h3 h2 hlk h1)
          rwa [show lo + (b - 1 - lo) = b - 1 by exact ar129 h2 h1] at this
        · rw [if_neg a1]
          by_cases a2 : lo + l < a ∧ a ≤ lo + k
          · rw [if_pos a2, if_neg (by exact ar130 a2 h2 hlk), if_pos (by exact ar131 a2 h3 h2 hlk)]
            exact hs' _ _ (by exact ar132 a2) (by exact ar133 a2 h2) (by exact ar134 h3 h2)
          · rw [if_neg a2]
            by_cases b1 : b = lo + l
            · rw [if_pos b1]
              have := ha (a - lo) (by exact ar135 h2 b1 h1)
              rwa [show lo + (a - lo) = a by exact ar136 h1] at this
            · rw [if_neg b1]
              by_cases b2 : lo + l < b ∧ b ≤ lo + k
              · rw [if_pos b2]
                exact hs' _ _ (by exact ar31 h1) (by exact ar137 b2 h2 a2 a1) (by exact ar134 h3 h2)
              · rw [if_neg b2]
                exact hs' _ _ (by exact ar31 h1) (by exact ar61 h2) (by exact ar138 h3 hlk b2 b1)
      · rw [hget, if_neg (by exact ar139 hi), if_neg (by exact ar140 hi hlk)]; exact hlow i hi
      · rw [hget, if_neg (by exact ar141 hi hlk), if_neg (by exact ar142 hi)]; exact hhigh i (by exact ar143 hi)
  · rintro c st ⟨rfl, arr', rfl, hp', hs', hlow, hhigh⟩
    have e : max ok n = n := by exact ar79 h2
    rw [e] at hs' hhigh
    exact ⟨rfl, arr', rfl, hp', hs', hlow, hhigh⟩
  · rintro c st ⟨rfl, arr', rfl, hp', hs', hlow, hhigh⟩
    exact wpS_pure ⟨arr', rfl, rfl, hp', hs', hlow, hhigh⟩
end
end
section
-- S2
open PySem.Spec
noncomputable def gallop' : Bool → Keyed → Array Keyed → Nat → Nat → Nat → StateT SortSt Sem (Option Nat) := sortPriv% PySem.Builtin.gallop
noncomputable def mergeLo' : Array Keyed → Array Keyed → StateT SortSt Sem (Array Keyed) := sortPriv% PySem.Builtin.mergeLo
noncomputable def mergeHi' : Array Keyed → Array Keyed → StateT SortSt Sem (Array Keyed) := sortPriv% PySem.Builtin.mergeHi
theorem mergeAt'_eq (i : Nat) : mergeAt' i = (do
  let s ← get
  let (some (sa, na, power), some (sb, nb, _)) := ((pendingOf s)[i]?, (pendingOf s)[i + 1]?) | unsupported "internal:list.sort.pending"
  set (setPending s (((pendingOf s).setIfInBounds i (sa, na + nb, power)).eraseIdxIfInBounds (i + 1)))
  let some k ← gallop' false (← elem' (arrOf s) sb) (arrOf s) sa na 0 | return false
  let (sa, na) := (sa + k, na - k)
  if na == 0 then return true
  let some nb ← gallop' true (← elem' (arrOf s) (sa + na - 1)) (arrOf s) sb nb (nb - 1) | return false
  if nb == 0 then return true
  let x := (arrOf s).extract sa sb
  let y := (arrOf s).extract sb (sb + nb)
  let merged ← if na ≤ nb then mergeLo' x y else mergeHi' x y
  modify fun s => setArr s (merged.toList.zipIdx.foldl (fun a (p, j) => a.setIfInBounds (sa + j) p) (arrOf s))
  return (failedOf (← get)).isNone) := rfl
end
section
-- S3
open PySem.Spec
section
variable {prog : Program} {w : World} {A : Around} {E : Value → Shared → Prop} {s : Shared} {κ : SortKind} {kf : Keyed → Nat} {arr0 arr arr' : Array Keyed} {pend : Array (Nat × Nat × Nat)}
theorem runs_small (hc : CmpOk prog w A s κ kf arr0) (hnd : (arr0.toList.map kf).Nodup) (hp : arr.Perm arr0) (h2 : 2 ≤ arr0.size) (h64 : arr0.size < 64) {Q : Unit → SortSt → Prop}
    (h : ∀ arr' pend', arr'.Perm arr0 → SegS kf arr' 0 arr0.size → Q () (MK κ pend' arr')) : wpS (model prog w) A E s sortRuns' Q (MK κ #[] arr) := by
  have hsz : arr.size = arr0.size := hp.size_eq
  have hmr : minRun' arr0.size arr0.size 0 = arr0.size := by
    obtain ⟨f, hf⟩ : ∃ f, arr0.size = f + 1 := ⟨arr0.size - 1, by exact ar173 h2⟩
    have e : minRun' (f + 1) arr0.size 0 = arr0.size := by rw [minRun'_succ, if_pos h64]; rfl
    rw [← hf] at e; exact e
  rw [sortRuns'_eq]
  refine wpS_bind (wpS_get ?_)
  dsimp only
  have e1 : (arrOf (MK κ #[] arr)).size = arr0.size := hsz
  rw [e1, hmr]
  refine wpS_bind (wpS_mono (wpS_forRange (I := fun i c st => (i = 0 ∧ c = ((none, 0) : Option PUnit × Nat) ∧ st = MK κ #[] arr) ∨ (1 ≤ i ∧ c = ((none, arr0.size) : Option PUnit × Nat) ∧ ∃ arr', st = MK κ #[(0, arr0.size, 0)] arr' ∧ arr'.Perm arr0 ∧ SegS kf arr' 0 arr0.size))
    (Q := fun c st => c = ((none, arr0.size) : Option PUnit × Nat) ∧ ∃ arr', st = MK κ #[(0, arr0.size, 0)] arr' ∧ arr'.Perm arr0 ∧ SegS kf arr' 0 arr0.size) ?_ ?_ (.inl ⟨rfl, rfl, rfl⟩)) ?_)
  · rintro i c st hi1 hi2 (⟨rfl, rfl, rfl⟩ | ⟨h1, rfl, arr', rfl, hp', hs'⟩)
    · dsimp only
      rw [if_neg (by exact ar174 h2)]
      refine wpS_bind (wpS_mono (count_c (pend := #[]) hc hnd hp (lo := 0) (nrem := arr0.size - 0) (by exact ar175 h2) (by exact ar176 hsz)) ?_)
      rintro r st ⟨m, arr1, rfl, hm1, hm2, rfl, hp1, hs1, _, _, _⟩
      rw [Nat.zero_add] at hs1
      dsimp only
      by_cases hlt : m < arr0.size
      · rw [if_pos hlt]
        refine wpS_bind (wpS_lift (wpAny_rule ⟨rfl, ?_⟩))
        have hsz1 : arr1.size = arr0.size := hp1.size_eq
        refine wpS_bind (wpS_mono (bin_c (pend := #[]) hc hnd hp1 (lo := 0) (n := min (arr0.size - 0) arr0.size) (ok := m) hm1 (by exact ar177 hlt hm2) (by exact ar178 hsz1) (by rw [Nat.zero_add]; exact hs1)) ?_)
        rintro r st ⟨arr2, rfl, rfl, hp2, hs2, _, _⟩
        rw [Nat.zero_add] at hs2
        have emin : min (arr0.size - 0) arr0.size = arr0.size := by exact ar179 h2
        rw [emin] at hs2 ⊢
        rw [if_neg (by decide)]
        refine wpS_bind (wpS_get ?_)
        rw [show (pendingOf (MK κ #[] arr2)).back? = none from rfl]
        dsimp only
        refine wpS_bind (wpS_modify (wpS_pure ?_))
        exact .inr ⟨by exact ar180, by rw [Nat.zero_add], arr2, rfl, hp2, hs2⟩
      · rw [if_neg hlt]
        have em : m = arr0.size := by exact ar181 hm2 hlt
        subst em
        refine wpS_bind (wpS_get ?_)
        rw [show (pendingOf (MK κ #[] arr1)).back? = none from rfl]
        dsimp only
        refine wpS_bind (wpS_modify (wpS_pure ?_))
        exact .inr ⟨by exact ar180, by rw [Nat.zero_add], arr1, rfl, hp1, hs1⟩
    · dsimp only
      rw [if_pos (Nat.le_refl _)]
      exact wpS_pure ⟨rfl, arr', rfl, hp', hs'⟩
  · rintro c st (⟨h0, _, _⟩ | ⟨h1, rfl, arr', rfl, hp', hs'⟩)
    · exfalso; exact ar182 h0 h2
    · exact ⟨rfl, arr', rfl, hp', hs'⟩
  · rintro c st ⟨rfl, arr', rfl, hp', hs'⟩
    dsimp only
    refine wpS_bind (wpS_mono (wpS_forRange (I := fun i c st => c = ((none, ()) : Option PUnit × Unit) ∧ st = MK κ #[(0, arr0.size, 0)] arr') (Q := fun c st => c = ((none, ()) : Option PUnit × Unit) ∧ st = MK κ #[(0, arr0.size, 0)] arr') ?_ ?_ ⟨rfl, rfl⟩) ?_)
    · rintro i c st _ _ ⟨rfl, rfl⟩
      refine wpS_bind (wpS_get ?_)
      rw [if_pos (show (pendingOf (MK κ #[(0, arr0.size, 0)] arr')).size ≤ 1 from Nat.le_refl 1)]
      exact wpS_pure ⟨rfl, rfl⟩
    · rintro c st ⟨rfl, rfl⟩
      exact ⟨rfl, rfl⟩
    · rintro c st ⟨rfl, rfl⟩
      exact wpS_pure (h arr' _ hp' hs')

end
end
section
-- S4
open PySem.Spec
section
variable {prog : Program} {w : World} {A : Around} {E : Value → Shared → Prop} {s : Shared}
/-- what the sort of these values leaves -/
noncomputable def SortRun (prog : Program) (w : World) (A : Around) (s : Shared) (vs : List Value) (Out : List Value → Prop) : Prop :=
  ∃ κ, (∀ (Q : SortKind → Shared → Prop) (E : Value → Shared → Prop), Q κ s → wpAny (model prog w) A (keyKind' vs.toArray) Q E s) ∧
    ∀ (E : Value → Shared → Prop), wpS (model prog w) A E s sortRuns' (fun _ st' => failedOf st' = none ∧ (arrOf st').size = vs.length ∧ Out ((arrOf st').toList.map (·.2))) (MK κ #[] (pairsOf vs))

theorem lsort_c {a : Addr} {vs : List Value} {n : Nat} {P : PySem.Fin → Shared → Prop} {Out : List Value → Prop} (ho : s.heap.get? a = some (seqObj "list" vs.toArray n)) (hz : vs.length ≤ 64)
    (small : vs.length < 2 → Out vs) (run : 2 ≤ vs.length → ∀ h' : Heap, (∀ b o, b ≠ a → s.heap.get? b = some o → h'.get? b = some o) → SortRun prog w A { s with heap := h' } vs Out)
    (h : ∀ out h' c, Out out → (∀ b o, b ≠ a → s.heap.get? b = some o → h'.get? b = some o) → h'.get? a = some (seqObj "list" out.toArray c) → P (.done (.ret .none)) { s with heap := h' }) :
    wpAny (model prog w) A (Builtin.«list.sort» ⟨[.ref a], []⟩) P E s := by
  rw [list_sort_plain]
  have ha : a < s.heap.objs.size := Heap.lt_size ho
  refine wpAny_bind (listItems_at ho rfl ?_)
  refine wpAny_bind (listUpdate_at ho rfl ?_ (by rw [List.size_toArray, sizeLine_eq]; exact ar410 hz) (Nat.zero_le _))
  obtain ⟨e1, ho1⟩ : ∃ e1, (s.heap.update a (Obj.mapSeq fun _ => #[])).get? a = some (seqObj "list" #[] e1) := ⟨_, get?_update_seq ho (fun _ => #[])⟩
  refine wpAny_bind (seqEpoch_at ho1 rfl ?_)
  refine wpAny_bind (wpAny_newTuple ?_ (by show vs.length ≤ _; rw [sizeLine_eq]; exact ar410 hz))
  refine wpAny_bind (wpAny_newList ?_ (Nat.zero_le _))
  refine wpAny_holding ?_
  obtain ⟨h1, hh1⟩ : ∃ h1, ((s.heap.update a (Obj.mapSeq fun _ => (#[] : Array Value))).push (seqObj "tuple" vs.toArray 0)).push (seqObj "list" #[] 0) = h1 := ⟨_, rfl⟩
  have ho6 : h1.get? a = some (seqObj "list" #[] e1) := by
    rw [← hh1, Heap.get?_push_ne _ _ _ (by rw [size_push', Heap.size_update]; exact Nat.ne_of_lt (Nat.lt_succ_of_lt ha)), Heap.get?_push_ne _ _ _ (by rw [Heap.size_update]; exact Nat.ne_of_lt ha)]
    exact ho1
  have keep : ∀ b o, b ≠ a → s.heap.get? b = some o → h1.get? b = some o := fun b o hb e => by
    rw [← hh1]
    refine Heap.get?_push_of_some _ (Heap.get?_push_of_some _ ?_)
    rw [Heap.get?_update_ne _ _ _ _ hb]; exact e
  show wpAny (model prog w) A _ P E { s with heap := ((s.heap.update a (Obj.mapSeq fun _ => (#[] : Array Value))).push (seqObj "tuple" vs.toArray 0)).push (seqObj "list" #[] 0) }
  rw [hh1]
  dsimp only
  have hsz : vs.toArray.size = vs.length := by simp
  have fin : ∀ st' : SortSt, (arrOf st').size = vs.length → Out ((arrOf st').toList.map (·.2)) → ∀ (Q : Unit → Shared → Prop), (∀ h', P (.done (.ret .none)) { s with heap := h' } → Q () { s with heap := h' }) →
      wpAny (model prog w) A (Builtin.List.listUpdate (.ref a) fun _ => (arrOf st').map (·.2)) Q E { s with heap := h1 } := by
    intro st' hn hout Q hQ
    have hs2 : ((arrOf st').map (·.2)).size = vs.length := (Array.size_map ..).trans hn
    refine listUpdate_at ho6 rfl (hQ _ ?_) (Nat.zero_le _) (Nat.le_trans (Nat.le_of_eq hs2) (by rw [sizeLine_eq]; exact ar411 hz))
    obtain ⟨c, hc⟩ : ∃ c, (h1.update a (Obj.mapSeq fun _ => (arrOf st').map (·.2))).get? a = some (seqObj "list" ((arrOf st').map (·.2)) c) := ⟨_, get?_update_seq ho6 fun _ => (arrOf st').map (·.2)⟩
    have ea : (arrOf st').map (·.2) = ((arrOf st').toList.map (·.2)).toArray := by apply Array.toList_inj.mp; simp
    refine h _ _ c hout (fun b o hb e => ?_) (by rw [← ea]; exact hc)
    rw [Heap.get?_update_ne _ _ _ _ hb]
    exact keep b o hb e
  by_cases h2 : vs.toArray.size < 2
  · rw [if_pos h2, if_pos h2]
    refine wpAny_bind (wpAny_pure ?_)
    rw [StateT.run_pure]
    refine wpAny_bind (wpAny_pure ?_)
    dsimp only
    refine wpAny_bind (seqEpoch_at ho6 rfl ?_)
    refine wpAny_bind (fin (SortSt.mk' general' (vs.toArray.zip vs.toArray) #[] 7 none) (pairsOf_size vs) ?_ _ fun h' hP => ?_)
    · have e : ((pairsOf vs).toList.map (·.2)) = vs := by
        rw [pairsOf_toList]
        exact List.map_snd_zip (Nat.le_refl _)
      show Out ((pairsOf vs).toList.map (·.2))
      rw [e]
      exact small (by exact ar412 h2 hsz)
    · simp only [bne_self_eq_false, Bool.false_eq_true, if_false]
      exact wpAny_pure hP
  · rw [if_neg h2, if_neg h2]
    obtain ⟨κ, hk, hr⟩ := run (by exact ar413 hsz h2) h1 keep
    refine wpAny_bind (hk _ _ ?_)
    refine wpAny_bind (wpAny_mono (hr E) ?_ fun _ _ e => e)
    rintro ⟨⟨⟩, st'⟩ s' ⟨rfl, hf, hn, hout⟩
    dsimp only
    refine wpAny_bind (seqEpoch_at ho6 rfl ?_)
    refine wpAny_bind (fin st' hn hout _ fun h' hP => ?_)
    rw [hf]
    simp only [bne_self_eq_false, Bool.false_eq_true, if_false]
    exact wpAny_pure hP

theorem sorted_c {Q : Value → Shared → Prop} {h₀ : Heap} {L l : Addr} {m : Str → Option Value} {news : List (Addr × Obj)} {vs : List Value} {n : Nat} {Out : List Value → Prop} (F : Fr h₀ L s.heap m) (N : News h₀ L s.heap news) (hl : (l, listOf vs.toArray n) ∈ news) (hz : vs.length ≤ 64)
    (small : vs.length < 2 → Out vs) (run : 2 ≤ vs.length → ∀ h', Fr h₀ L h' m → News h₀ L h' news → SortRun prog w A.in1.in1 { s with heap := h' } vs Out)
    (k : ∀ D out h' c, Out out → Fr h₀ L h' m → News h₀ L h' ((D, listOf out.toArray c) :: news) → (∀ q ∈ news, @LT.lt Nat _ q.1 D) → Q (.ref D) { s with heap := h' }) :
    wpAny (model prog w) A (call (.builtin "sorted") [.ref l]) Q E s := by
  refine Calls.call_function_entry kind_sorted plain_sorted entry_sorted (args_sorted1 _) ?_
  unfold Builtin.«sorted»
  refine wpAny_bind (m := checkCount "sorted" 1 1 _) (wpAny_pure ?_)
  refine wpAny_bind (collect_list (N.isList hl) ?_ (by rw [sizeLine_eq]; exact ar410 hz))
  refine wpAny_bind (wpAny_newList ?_ (by rw [sizeLine_eq]; exact ar410 hz))
  obtain ⟨h1, hh1⟩ : ∃ h1, ((s.heap.push (seqObj "list" #[] 0)).update s.heap.objs.size (Obj.mapSeq (· ++ vs.toArray))).push (seqObj "list" vs.toArray 0) = h1 := ⟨_, rfl⟩
  have hsz : ((s.heap.push (seqObj "list" #[] 0)).update s.heap.objs.size (Obj.mapSeq (· ++ vs.toArray))).objs.size = s.heap.objs.size + 1 := by
    rw [Heap.size_update, size_push']
  have hoL : h1.get? (s.heap.objs.size + 1) = some (seqObj "list" vs.toArray 0) := by
    rw [← hh1, ← hsz]; exact Heap.get?_push_size _ rfl
  have keep : ∀ b o, s.heap.get? b = some o → h1.get? b = some o := fun b o q => by
    have hlt : b < s.heap.objs.size := Heap.lt_size q
    rw [← hh1, Heap.get?_push_ne _ _ _ (by rw [hsz]; exact Nat.ne_of_lt (Nat.lt_succ_of_lt hlt)), Heap.get?_update_ne _ _ _ _ (Nat.ne_of_lt hlt), Heap.get?_push_ne _ _ _ (Nat.ne_of_lt hlt)]
    exact q
  have hL : L < s.heap.objs.size := F.ns.lt
  have nD : ∀ b o, s.heap.get? b = some o → b ≠ s.heap.objs.size + 1 := fun b o e => Nat.ne_of_lt (Nat.lt_succ_of_lt (Heap.lt_size e))
  show wpAny _ _ _ _ _ { s with heap := ((s.heap.push (seqObj "list" #[] 0)).update s.heap.objs.size (Obj.mapSeq (· ++ vs.toArray))).push (seqObj "list" vs.toArray 0) }
  rw [hsz, hh1]
  have fr : ∀ h' : Heap, (∀ b o, b ≠ s.heap.objs.size + 1 → h1.get? b = some o → h'.get? b = some o) → Fr h₀ L h' m ∧ News h₀ L h' news := fun h' k' => by
    have up : ∀ b o, s.heap.get? b = some o → h'.get? b = some o := fun b o e => k' b o (nD b o e) (keep b o e)
    exact ⟨F.keeps up, fun p hp => ⟨up _ _ (N p hp).1, (N p hp).2⟩⟩
  refine wpAny_bind (wpAny_holding (wpAny_call_entry slot_list_sort ⟨_, hoL, rfl⟩ entry_list_sort ?body (args_list_sort _)))
  case body =>
    refine lsort_c (s := { s with heap := h1 }) hoL hz small (fun h2 h' k' => run h2 h' (fr h' k').1 (fr h' k').2) fun out h' c hout k' hD => ?_
    refine ⟨_, rfl, wpAny_pure ⟨_, rfl, k _ out h' c hout (fr h' k').1 (fun p hp => ?_) fun q hq => Nat.lt_succ_of_lt (Heap.lt_size (N q hq).1)⟩⟩
    rcases List.mem_cons.mp hp with rfl | hp
    · exact ⟨hD, Nat.ne_of_gt (Nat.lt_succ_of_lt hL), Heap.get?_none_of_le (Nat.le_trans F.above (Nat.le_succ_of_le (Nat.le_of_lt hL)))⟩
    · exact (fr h' k').2 p hp
end
end
section
-- S7
open PySem.Spec
theorem gallop_eq (left : Bool) (key : Keyed) (arr : Array Keyed) (base n hint : Nat) : gallop' left key arr base n hint = (do
  let beyond (i : Nat) : StateT SortSt Sem (Option Bool) := do
    let x ← elem' arr (base + i)
    if left then lt' x key else return (← lt' key x).map (!·)
  let mut lastofs := 0
  let mut ofs := 1
  let mut lo := 0
  let mut hi := 0
  let some right ← beyond hint | return none
  if right then
    let maxofs := n - hint
    for _ in [0:n] do
      if ofs ≥ maxofs then break
      let some more ← beyond (hint + ofs) | return none
      if !more then break
      lastofs := ofs
      ofs := 2 * ofs + 1
    lo := hint + lastofs + 1
    hi := hint + min ofs maxofs
  else
    let maxofs := hint + 1
    for _ in [0:n] do
      if ofs ≥ maxofs then break
      let some found ← beyond (hint - ofs) | return none
      if found then break
      lastofs := ofs
      ofs := 2 * ofs + 1
    lo := hint + 1 - min ofs maxofs
    hi := hint - lastofs
  for _ in [0:n] do
    if lo ≥ hi then break
    let m := lo + (hi - lo) / 2
    let some more ← beyond m | return none
    if more then lo := m + 1 else hi := m
  return some hi) := rfl
section
variable {prog : Program} {w : World} {A : Around} {E : Value → Shared → Prop} {s : Shared} {κ : SortKind} {kf : Keyed → Nat} {arr0 arr arr' : Array Keyed} {st : SortSt}
theorem lts_c (hc : CmpOk prog w A s κ kf arr0) (hk : kindOf st = κ) {x y : Keyed} (hx : x ∈ arr0.toList) (hy : y ∈ arr0.toList) {Q : Option Bool → SortSt → Prop} (h : Q (some (decide (kf x < kf y))) st) :
    wpS (model prog w) A E s (lt' x y) Q st := by
  subst hk
  rw [lt'_eq]
  refine wpS_bind (wpS_get ?_)
  refine wpS_bind (wpS_lift (wpAny_attempt (hc x y hx hy _ _ ⟨rfl, ?_⟩)))
  exact wpS_pure h
noncomputable def bey (left : Bool) (kf : Keyed → Nat) (key : Keyed) (arr : Array Keyed) (base i : Nat) : Bool := if left then decide (KA kf arr (base + i) < kf key) else !decide (kf key < KA kf arr (base + i))
/-- every cell of the array is one of the keys -/
noncomputable def Of (arr arr0 : Array Keyed) : Prop := ∀ x, x ∈ arr.toList → x ∈ arr0.toList
theorem at_of (ho : Of arr arr0) {i : Nat} (hi : i < arr.size) : ∃ x, arr[i]? = some x ∧ x ∈ arr0.toList ∧ KA kf arr i = kf x :=
  ⟨arr[i], by simp [hi], ho _ (by simp), by unfold KA; simp [hi]⟩
theorem bey_c (hc : CmpOk prog w A s κ kf arr0) (hk : kindOf st = κ) (ho : Of arr arr0) {left : Bool} {key : Keyed} (hm : key ∈ arr0.toList) {base i : Nat} (hi : base + i < arr.size) {Q : Option Bool → SortSt → Prop} (h : Q (some (bey left kf key arr base i)) st) :
    wpS (model prog w) A E s (do
      let x ← elem' arr (base + i)
      if left then lt' x key else return (← lt' key x).map (!·)) Q st := by
  obtain ⟨x, hx, mx, ex⟩ := at_of (kf := kf) ho hi
  rw [elem'_eq, hx]
  refine wpS_bind (wpS_pure ?_)
  unfold bey at h
  rw [ex] at h
  cases left
  · rw [if_neg (by decide)] at h ⊢
    exact wpS_bind (lts_c hc hk hm mx (wpS_pure h))
  · rw [if_pos rfl] at h ⊢
    exact lts_c hc hk mx hm h
theorem gall_c (hc : CmpOk prog w A s κ kf arr0) (hk : kindOf st = κ) (ho : Of arr arr0) {left : Bool} {key : Keyed} (hm : key ∈ arr0.toList) {base n hint : Nat} (hh : hint < n) (hz : base + n ≤ arr.size) (hs : SegS kf arr base (base + n)) {Q : Option Nat → SortSt → Prop}
    (h : ∀ k, k ≤ n → (∀ i, i < k → bey left kf key arr base i = true) → (∀ i, k ≤ i → i < n → bey left kf key arr base i = false) → Q (some k) st) :
    wpS (model prog w) A E s (gallop' left key arr base n hint) Q st := by
  have down : ∀ i j, i ≤ j → j < n → bey left kf key arr base j = true → bey left kf key arr base i = true := by
    intro i j hij hj hb
    rcases Nat.lt_or_ge i j with q | q
    · have := hs (base + i) (base + j) (by exact ar32) (by exact ar58 q) (by exact ar58 hj)
      unfold bey at hb ⊢
      cases left
      · simp only [Bool.false_eq_true, if_false, Bool.not_eq_true', decide_eq_false_iff_not] at hb ⊢; exact ar144 this hb
      · simp only [if_true, decide_eq_true_eq] at hb ⊢; exact ar89 hb this
    · rw [show i = j by exact ar108 hij q]; exact hb
  have up : ∀ i j, i ≤ j → j < n → bey left kf key arr base i = false → bey left kf key arr base j = false := by
    intro i j hij hj hb
    cases e : bey left kf key arr base j
    · rfl
    · rw [down i j hij hj e] at hb; exact absurd hb (by decide)
  have last : ∀ lo hi, lo ≤ hi → hi ≤ n → (∀ i, i < lo → bey left kf key arr base i = true) → (∀ i, hi ≤ i → i < n → bey left kf key arr base i = false) →
      ∀ {body : Nat → Option (Option Nat) × Nat × Nat → StateT SortSt Sem (ForInStep (Option (Option Nat) × Nat × Nat))} {P : Option (Option Nat) × Nat × Nat → SortSt → Prop},
      (∀ i c, body i c = (if c.2.1 ≥ c.2.2 then pure (ForInStep.done (none, c.2.1, c.2.2)) else do
        let __x ← (do
          let x ← elem' arr (base + (c.2.1 + (c.2.2 - c.2.1) / 2))
          if left then lt' x key else return (← lt' key x).map (!·))
        match __x with
        | some more => if more = true then pure (ForInStep.yield (none, c.2.1 + (c.2.2 - c.2.1) / 2 + 1, c.2.2)) else pure (ForInStep.yield (none, c.2.1, c.2.1 + (c.2.2 - c.2.1) / 2))
        | _ => pure (ForInStep.done (some none, c.2.1, c.2.2)))) →
      (∀ k, k ≤ n → (∀ i, i < k → bey left kf key arr base i = true) → (∀ i, k ≤ i → i < n → bey left kf key arr base i = false) → P (none, k, k) st) →
      wpS (model prog w) A E s (forIn [0:n] ((none, lo, hi) : Option (Option Nat) × Nat × Nat) body) P st := by
    intro lo hi h1 h2 h3 h4 body P hb hP
    refine wpS_forRange (I := fun i c st' => ∃ lo hi, c = ((none, lo, hi) : Option (Option Nat) × Nat × Nat) ∧ st' = st ∧ lo ≤ hi ∧ hi ≤ n ∧ (hi + i ≤ lo + n) ∧ (∀ i, i < lo → bey left kf key arr base i = true) ∧ (∀ i, hi ≤ i → i < n → bey left kf key arr base i = false)) ?_ ?_ ⟨lo, hi, rfl, rfl, h1, h2, by exact ar145 h2, h3, h4⟩
    · rintro i c st' hi1 hi2 ⟨lo, hi, rfl, rfl, h1, h2, h5, h3, h4⟩
      rw [hb]
      dsimp only
      by_cases hge : lo ≥ hi
      · rw [if_pos hge]
        have e : lo = hi := by exact ar108 h1 hge
        subst e
        exact wpS_pure (hP lo h2 h3 h4)
      · rw [if_neg hge]
        refine wpS_bind (bey_c hc hk ho hm (by exact ar146 hz h2 hge) ?_)
        dsimp only
        cases e : bey left kf key arr base (lo + (hi - lo) / 2)
        · rw [if_neg (by decide)]
          refine wpS_pure ⟨_, _, rfl, rfl, by exact ar147, by exact ar148 h2 h1, by exact ar149 h5 hge, h3, fun j hj hj2 => up _ _ hj hj2 e⟩
        · rw [if_pos rfl]
          refine wpS_pure ⟨_, _, rfl, rfl, by exact ar150 hge, by exact ar31 h2, by exact ar151 h5, fun j hj => down _ _ (by exact ar152 hj) (by exact ar153 h2 hge) e, h4⟩
    · rintro c st' ⟨lo, hi, rfl, rfl, h1, h2, h5, h3, h4⟩
      have e : lo = hi := by exact ar122 h5 h1
      subst e
      exact hP lo h2 h3 h4
  rw [gallop_eq]
  dsimp only
  refine wpS_bind (bey_c hc hk ho hm (by exact ar87 hz hh) ?_)
  dsimp only
  cases e0 : bey left kf key arr base hint
  · rw [if_neg (by decide)]
    refine wpS_bind (wpS_mono (wpS_forRange (I := fun i c st' => ∃ a b, c = ((none, a, b) : Option (Option Nat) × Nat × Nat) ∧ st' = st ∧ i + 1 ≤ b ∧ a < b ∧ a ≤ hint ∧ bey left kf key arr base (hint - a) = false)
      (Q := fun c st' => ∃ a b, c = ((none, a, b) : Option (Option Nat) × Nat × Nat) ∧ st' = st ∧ a < b ∧ a ≤ hint ∧ bey left kf key arr base (hint - a) = false ∧ (hint + 1 ≤ b ∨ bey left kf key arr base (hint - b) = true)) ?_ ?_ ⟨0, 1, rfl, rfl, Nat.le_refl _, by exact ar154, by exact ar16, e0⟩) ?_)
    · rintro i c st' hi1 hi2 ⟨a, b, rfl, rfl, hb, hab, ha, hf⟩
      dsimp only
      by_cases hge : b ≥ hint + 1
      · rw [if_pos hge]
        exact wpS_pure ⟨a, b, rfl, rfl, hab, ha, hf, .inl hge⟩
      · rw [if_neg hge]
        refine wpS_bind (bey_c hc hk ho hm (by exact ar155 hz hh) ?_)
        dsimp only
        cases e1 : bey left kf key arr base (hint - b)
        · rw [if_neg (by decide)]
          exact wpS_pure ⟨_, _, rfl, rfl, by exact ar156 hb, by exact ar157, by exact ar158 hge, e1⟩
        · rw [if_pos rfl]
          exact wpS_pure ⟨_, _, rfl, rfl, hab, ha, hf, .inr e1⟩
    · rintro c st' ⟨a, b, rfl, rfl, hb, hab, ha, hf⟩
      exact ⟨a, b, rfl, rfl, hab, ha, hf, .inl (by exact ar159 hb hh)⟩
    · rintro c st' ⟨a, b, rfl, rfl, hab, ha, hf, hor⟩
      dsimp only
      refine wpS_bind (wpS_mono (last (hint + 1 - min b (hint + 1)) (hint - a) (by exact ar160 hab ha) (by exact ar161 hh) ?_ (fun i h1 h2 => up _ _ h1 h2 hf) (by exact fun i c => rfl) (P := fun c st2 => ∃ k, c = (none, k, k) ∧ st2 = st' ∧ k ≤ n ∧ (∀ i, i < k → bey left kf key arr base i = true) ∧ (∀ i, k ≤ i → i < n → bey left kf key arr base i = false)) fun k h1 h2 h3 => ⟨k, rfl, rfl, h1, h2, h3⟩) ?_)
      · intro i hi
        rcases hor with q | q
        · omega
        · exact down i _ (by exact ar162 hi hh) (by exact ar163 hh) q
      · rintro c st' ⟨k, rfl, rfl, h1, h2, h3⟩
        exact wpS_pure (h k h1 h2 h3)
  · rw [if_pos rfl]
    refine wpS_bind (wpS_mono (wpS_forRange (I := fun i c st' => ∃ a b, c = ((none, a, b) : Option (Option Nat) × Nat × Nat) ∧ st' = st ∧ i + 1 ≤ b ∧ a < b ∧ hint + a < n ∧ bey left kf key arr base (hint + a) = true)
      (Q := fun c st' => ∃ a b, c = ((none, a, b) : Option (Option Nat) × Nat × Nat) ∧ st' = st ∧ a < b ∧ hint + a < n ∧ bey left kf key arr base (hint + a) = true ∧ (n - hint ≤ b ∨ bey left kf key arr base (hint + b) = false)) ?_ ?_ ⟨0, 1, rfl, rfl, Nat.le_refl _, by exact ar154, by exact ar164 hh, e0⟩) ?_)
    · rintro i c st' hi1 hi2 ⟨a, b, rfl, rfl, hb, hab, ha, hf⟩
      dsimp only
      by_cases hge : b ≥ n - hint
      · rw [if_pos hge]
        exact wpS_pure ⟨a, b, rfl, rfl, hab, ha, hf, .inl hge⟩
      · rw [if_neg hge]
        refine wpS_bind (bey_c hc hk ho hm (by exact ar165 hz hge) ?_)
        dsimp only
        cases e1 : bey left kf key arr base (hint + b)
        · rw [if_pos (by decide)]
          exact wpS_pure ⟨_, _, rfl, rfl, hab, ha, hf, .inr e1⟩
        · rw [if_neg (by decide)]
          exact wpS_pure ⟨_, _, rfl, rfl, by exact ar156 hb, by exact ar157, by exact ar166 hge, e1⟩
    · rintro c st' ⟨a, b, rfl, rfl, hb, hab, ha, hf⟩
      exact ⟨a, b, rfl, rfl, hab, ha, hf, .inl (by exact ar167 hb)⟩
    · rintro c st' ⟨a, b, rfl, rfl, hab, ha, hf, hor⟩
      dsimp only
      refine wpS_bind (wpS_mono (last (hint + a + 1) (hint + min b (n - hint)) (by exact ar168 ha hab) (by exact ar169 hab hh) (fun i h1 => down _ _ (by exact ar170 h1) (by exact ar171 ha) hf) ?_ (by exact fun i c => rfl) (P := fun c st2 => ∃ k, c = (none, k, k) ∧ st2 = st' ∧ k ≤ n ∧ (∀ i, i < k → bey left kf key arr base i = true) ∧ (∀ i, k ≤ i → i < n → bey left kf key arr base i = false)) fun k h1 h2 h3 => ⟨k, rfl, rfl, h1, h2, h3⟩) ?_)
      · intro i h1 h2
        rcases hor with q | q
        · omega
        · exact up _ i (by exact ar172 h1 h2) (by exact ar61 h2) q
      · rintro c st' ⟨k, rfl, rfl, h1, h2, h3⟩
        exact wpS_pure (h k h1 h2 h3)
end
end
section
-- S8a
open PySem.Spec
section
variable {kf : Keyed → Nat} {a b out : Array Keyed} {ia ib : Nat}
noncomputable abbrev RK (kf : Keyed → Nat) (x y : Keyed) : Prop := kf x < kf y
noncomputable def SrtL (kf : Keyed → Nat) (l : List Keyed) : Prop := l.Pairwise (RK kf)
theorem srt_seg {arr : Array Keyed} {i j : Nat} (h : SegS kf arr i j) (hj : j ≤ arr.size) : SrtL kf (arr.extract i j).toList := by
  refine List.pairwise_iff_getElem.mpr fun p q hp hq hpq => ?_
  have hp' : p < (arr.extract i j).size := by rw [← Array.length_toList]; exact hp
  have hq' : q < (arr.extract i j).size := by rw [← Array.length_toList]; exact hq
  rw [Array.size_extract] at hp' hq'
  have e := h (i + p) (i + q) (by exact ar32) (by exact ar58 hpq) (by exact ar416 hq' hj)
  have e1 : KA kf arr (i + p) = kf ((arr.extract i j).toList[p]) := by unfold KA; rw [Array.getElem?_eq_getElem (show i + p < arr.size by exact ar417 hp')]; simp
  have e2 : KA kf arr (i + q) = kf ((arr.extract i j).toList[q]) := by unfold KA; rw [Array.getElem?_eq_getElem (show i + q < arr.size by exact ar417 hq')]; simp
  rw [e1, e2] at e
  exact e
theorem seg_srt {arr : Array Keyed} (h : SrtL kf arr.toList) : SegS kf arr 0 arr.size := by
  intro i j _ hij hj
  have := List.pairwise_iff_getElem.mp h i j (by simpa using (by exact ar89 hj hij : i < arr.size)) (by simpa using hj) hij
  have e1 : KA kf arr i = kf (arr.toList[i]'(by simpa using (by exact ar89 hj hij : i < arr.size))) := by unfold KA; rw [Array.getElem?_eq_getElem (show i < arr.size by exact ar89 hj hij)]; simp
  have e2 : KA kf arr j = kf (arr.toList[j]'(by simpa using hj)) := by unfold KA; rw [Array.getElem?_eq_getElem hj]; simp
  rw [e1, e2]; exact this
structure MInv (kf : Keyed → Nat) (a b out : Array Keyed) (ia ib : Nat) : Prop where
  la : ia ≤ a.size
  lb : ib ≤ b.size
  perm : out.toList.Perm (a.toList.take ia ++ b.toList.take ib)
  srt : SrtL kf out.toList
  ua : ∀ x ∈ out.toList, ∀ y ∈ a.toList.drop ia, RK kf x y
  ub : ∀ x ∈ out.toList, ∀ y ∈ b.toList.drop ib, RK kf x y
noncomputable def MFin (kf : Keyed → Nat) (a b out : Array Keyed) : Prop := out.toList.Perm (a.toList ++ b.toList) ∧ SrtL kf out.toList
theorem ext_toList (a : Array Keyed) (i k : Nat) : (a.extract i (i + k)).toList = (a.toList.drop i).take k := by
  rw [Array.toList_extract, List.extract_eq_take_drop]
  congr 1; exact ar418
theorem ext_last (a : Array Keyed) (i : Nat) : (a.extract i a.size).toList = a.toList.drop i := by
  rw [Array.toList_extract, List.extract_eq_take_drop]
  exact List.take_of_length_le (by simp)
theorem srt_drop {l : List Keyed} (h : SrtL kf l) (i : Nat) : SrtL kf (l.drop i) := List.Pairwise.sublist (List.drop_sublist i l) h
theorem MInv.symm (H : MInv kf a b out ia ib) : MInv kf b a out ib ia := ⟨H.lb, H.la, H.perm.trans List.perm_append_comm, H.srt, H.ub, H.ua⟩
theorem MInv.takeA (H : MInv kf a b out ia ib) (sa : SrtL kf a.toList) {k : Nat} (hk : ia + k ≤ a.size) (hlt : ∀ x ∈ (a.toList.drop ia).take k, ∀ y ∈ b.toList.drop ib, RK kf x y) : MInv kf a b (out ++ a.extract ia (ia + k)) (ia + k) ib := by
  have e : (out ++ a.extract ia (ia + k)).toList = out.toList ++ (a.toList.drop ia).take k := by rw [Array.toList_append, ext_toList]
  have hdrop : a.toList.drop ia = (a.toList.drop ia).take k ++ a.toList.drop (ia + k) := by
    rw [← List.drop_drop]; exact (List.take_append_drop k _).symm
  have sd : SrtL kf ((a.toList.drop ia).take k ++ a.toList.drop (ia + k)) := by rw [← hdrop]; exact srt_drop sa ia
  refine ⟨hk, H.lb, ?_, ?_, ?_, ?_⟩
  · rw [e, List.take_add]
    refine (H.perm.append_right _).trans ?_
    rw [List.append_assoc, List.append_assoc]
    exact List.Perm.append_left _ List.perm_append_comm
  · rw [e]
    refine List.pairwise_append.mpr ⟨H.srt, (List.pairwise_append.mp sd).1, fun x hx y hy => H.ua x hx y ?_⟩
    rw [hdrop]; exact List.mem_append_left _ hy
  · rw [e]
    intro x hx y hy
    rcases List.mem_append.mp hx with q | q
    · exact H.ua x q y (by rw [hdrop]; exact List.mem_append_right _ hy)
    · exact (List.pairwise_append.mp sd).2.2 x q y hy
  · rw [e]
    intro x hx y hy
    rcases List.mem_append.mp hx with q | q
    · exact H.ub x q y hy
    · exact hlt x q y hy
theorem MInv.takeB (H : MInv kf a b out ia ib) (sb : SrtL kf b.toList) {k : Nat} (hk : ib + k ≤ b.size) (hlt : ∀ x ∈ (b.toList.drop ib).take k, ∀ y ∈ a.toList.drop ia, RK kf x y) : MInv kf a b (out ++ b.extract ib (ib + k)) ia (ib + k) :=
  (H.symm.takeA sb hk hlt).symm
theorem MInv.pushA (H : MInv kf a b out ia ib) (sa : SrtL kf a.toList) (sb : SrtL kf b.toList) {x : Keyed} (hx : a[ia]? = some x) (hlt : ib < b.size → kf x < KA kf b ib) : MInv kf a b (out.push x) (ia + 1) ib := by
  obtain ⟨hz, e0⟩ := Array.getElem?_eq_some_iff.mp hx
  have e1 : (a.toList.drop ia).take 1 = [x] := by
    rw [List.drop_eq_getElem_cons (by simpa using hz)]
    simp [e0]
  have e2 : a.extract ia (ia + 1) = #[x] := by apply Array.toList_inj.mp; rw [ext_toList, e1]
  have := H.takeA sa (k := 1) (by exact ar381 hz) (by
    rw [e1]
    intro y hy z hz
    rw [List.mem_singleton] at hy
    subst hy
    rcases Nat.lt_or_ge ib b.size with q | q
    · have h := hlt q
      have ed : b.toList.drop ib = b.toList[ib]'(by simpa using q) :: b.toList.drop (ib + 1) := List.drop_eq_getElem_cons (by simpa using q)
      have ek : KA kf b ib = kf (b.toList[ib]'(by simpa using q)) := by unfold KA; rw [Array.getElem?_eq_getElem q]; simp
      rw [ek] at h
      have sd := srt_drop sb ib
      rw [ed] at hz sd
      rcases List.mem_cons.mp hz with rfl | hz
      · exact h
      · exact Nat.lt_trans h ((List.pairwise_cons.mp sd).1 z hz)
    · rw [List.drop_eq_nil_of_le (by simpa using q)] at hz
      exact absurd hz List.not_mem_nil)
  rw [e2] at this
  rwa [← Array.push_eq_append] at this
theorem MInv.pushB (H : MInv kf a b out ia ib) (sa : SrtL kf a.toList) (sb : SrtL kf b.toList) {x : Keyed} (hx : b[ib]? = some x) (hlt : ia < a.size → kf x < KA kf a ia) : MInv kf a b (out.push x) ia (ib + 1) :=
  (H.symm.pushA sb sa hx hlt).symm
/-- nothing of the second is left -/
theorem MInv.doneA (H : MInv kf a b out ia ib) (sa : SrtL kf a.toList) (hb : ib = b.size) : MFin kf a b (out ++ a.extract ia a.size ++ b.extract ib b.size) := by
  have e : (out ++ a.extract ia a.size ++ b.extract ib b.size).toList = out.toList ++ a.toList.drop ia := by
    rw [Array.toList_append, Array.toList_append, ext_last, ext_last, List.drop_eq_nil_of_le (as := b.toList) (by simp; exact ar419 hb), List.append_nil]
  unfold MFin
  rw [e]
  refine ⟨?_, List.pairwise_append.mpr ⟨H.srt, srt_drop sa ia, H.ua⟩⟩
  refine (H.perm.append_right _).trans ?_
  rw [List.take_of_length_le (l := b.toList) (by simp; exact ar419 hb), List.append_assoc]
  refine (List.Perm.append_left _ List.perm_append_comm).trans ?_
  rw [← List.append_assoc, List.take_append_drop]
theorem MInv.doneB (H : MInv kf a b out ia ib) (sb : SrtL kf b.toList) (ha : ia = a.size) : MFin kf a b (out ++ a.extract ia a.size ++ b.extract ib b.size) := by
  have h := H.symm.doneA sb ha
  have e : (out ++ a.extract ia a.size ++ b.extract ib b.size) = (out ++ b.extract ib b.size ++ a.extract ia a.size) := by
    apply Array.toList_inj.mp
    rw [Array.toList_append, Array.toList_append, Array.toList_append, Array.toList_append, ext_last a, List.drop_eq_nil_of_le (as := a.toList) (by simp; exact ar419 ha), List.append_nil, List.append_nil]
  rw [e]
  exact ⟨h.1.trans List.perm_append_comm, h.2⟩
/-- one of the first is left, and it is the last of all -/
theorem MInv.lastA (H : MInv kf a b out ia ib) (sa : SrtL kf a.toList) (sb : SrtL kf b.toList) (ha : ia + 1 = a.size) (hb1 : 1 ≤ b.size) (hl : KA kf b (b.size - 1) < KA kf a (a.size - 1)) : MFin kf a b (out ++ b.extract ib b.size ++ a.extract ia a.size) := by
  have e : (out ++ b.extract ib b.size ++ a.extract ia a.size).toList = out.toList ++ b.toList.drop ib ++ a.toList.drop ia := by
    rw [Array.toList_append, Array.toList_append, ext_last, ext_last]
  have ed : a.toList.drop ia = [a.toList[ia]'(by simpa using (by exact ar420 ha : ia < a.size))] := by
    rw [List.drop_eq_getElem_cons (by simpa using (by exact ar420 ha : ia < a.size)), List.drop_eq_nil_of_le (by simp; exact ar421 ha)]
  unfold MFin
  rw [e]
  constructor
  · refine ((H.perm.append_right _).append_right _).trans ?_
    rw [List.append_assoc (List.take ia a.toList), List.take_append_drop, List.append_assoc]
    refine (List.Perm.append_left _ List.perm_append_comm).trans ?_
    rw [← List.append_assoc, List.take_append_drop]
  · refine List.pairwise_append.mpr ⟨List.pairwise_append.mpr ⟨H.srt, srt_drop sb ib, H.ub⟩, srt_drop sa ia, fun x hx y hy => ?_⟩
    rcases List.mem_append.mp hx with q | q
    · exact H.ua x q y hy
    · rw [ed, List.mem_singleton] at hy
      subst hy
      have ek : KA kf a (a.size - 1) = kf (a.toList[ia]'(by simpa using (by exact ar420 ha : ia < a.size))) := by
        have : a.size - 1 = ia := by exact ar422 ha
        rw [this]
        unfold KA; rw [Array.getElem?_eq_getElem (show ia < a.size by exact ar420 ha)]; simp
      have q' := List.mem_of_mem_drop q
      obtain ⟨n, hn, rfl⟩ := List.getElem_of_mem q'
      have hn' : n < b.size := by simpa using hn
      have en : KA kf b n = kf (b.toList[n]) := by unfold KA; rw [Array.getElem?_eq_getElem hn']; simp
      have sB := seg_srt sb
      show kf _ < kf _
      rw [← en, ← ek]
      rcases Nat.lt_or_ge n (b.size - 1) with r | r
      · exact Nat.lt_trans (sB n (b.size - 1) (by exact ar16) r (by exact ar22 hb1)) hl
      · have : n = b.size - 1 := by exact ar423 hb1 hn' r
        rw [this]; exact hl
end
end
section
-- S8
open PySem.Spec
noncomputable def setG (st : SortSt) (g : Nat) : SortSt := SortSt.mk' (kindOf st) (arrOf st) (pendingOf st) g (failedOf st)
theorem mergeLo_eq (a b : Array Keyed) : mergeLo' a b = (do
  rule "list.sort.merge-lo"
  let total := a.size + b.size
  let done (out : Array Keyed) (ia ib : Nat) := out ++ a.extract ia a.size ++ b.extract ib b.size
  let lastOfA (out : Array Keyed) (ia ib : Nat) := out ++ b.extract ib b.size ++ a.extract ia a.size
  let mut out : Array Keyed := #[← elem' b 0]
  let mut ia := 0
  let mut ib := 1
  if ib == b.size then return done out ia ib
  if ia + 1 == a.size then return lastOfA out ia ib
  let mut minGallop := gallopOf (← get)
  for _ in [0:total] do
    let mut acount := 0
    let mut bcount := 0
    for _ in [0:total] do
      let some bWins ← lt' (← elem' b ib) (← elem' a ia) | return done out ia ib
      if bWins then
        out := out.push (← elem' b ib); ib := ib + 1; bcount := bcount + 1; acount := 0
        if ib == b.size then return done out ia ib
        if bcount ≥ minGallop then break
      else
        out := out.push (← elem' a ia); ia := ia + 1; acount := acount + 1; bcount := 0
        if ia + 1 == a.size then return lastOfA out ia ib
        if acount ≥ minGallop then break
    rule "list.sort.gallop"
    minGallop := minGallop + 1
    for _ in [0:total] do
      if minGallop > 1 then minGallop := minGallop - 1
      modify fun s => setG s minGallop
      let some k ← gallop' false (← elem' b ib) a ia (a.size - ia) 0 | return done out ia ib
      acount := k
      if k > 0 then
        out := out ++ a.extract ia (ia + k); ia := ia + k
        if ia + 1 == a.size then return lastOfA out ia ib
        if ia == a.size then return done out ia ib
      out := out.push (← elem' b ib); ib := ib + 1
      if ib == b.size then return done out ia ib
      let some k ← gallop' true (← elem' a ia) b ib (b.size - ib) 0 | return done out ia ib
      bcount := k
      if k > 0 then
        out := out ++ b.extract ib (ib + k); ib := ib + k
        if ib == b.size then return done out ia ib
      out := out.push (← elem' a ia); ia := ia + 1
      if ia + 1 == a.size then return lastOfA out ia ib
      if acount < 7 && bcount < 7 then break
    minGallop := minGallop + 1
    modify fun s => setG s minGallop
  unsupported "internal:list.sort.merge-bound") := rfl
section
variable {prog : Program} {w : World} {A : Around} {E : Value → Shared → Prop} {s : Shared} {κ : SortKind} {kf : Keyed → Nat} {arr0 : Array Keyed} {st : SortSt}
theorem elem_c {M : Model} {arr : Array Keyed} {i : Nat} {x : Keyed} (h : arr[i]? = some x) {Q : Keyed → SortSt → Prop} (hq : Q x st) : wpS M A E s (elem' arr i) Q st := by
  rw [elem'_eq, h]; exact wpS_pure hq
theorem bey_chunk {left : Bool} {key : Keyed} {arr : Array Keyed} {base k : Nat} (hz : base + k ≤ arr.size) (hb : ∀ i, i < k → bey left kf key arr base i = true) (hne : left = false → ∀ i, i < arr.size → KA kf arr i ≠ kf key) : ∀ x ∈ (arr.toList.drop base).take k, kf x < kf key := by
  intro x hx
  obtain ⟨n, hn, rfl⟩ := List.getElem_of_mem hx
  have hn1 : n < k := by
    have := hn; rw [List.length_take] at this; exact ar39 this
  have hn2 : base + n < arr.size := by exact ar87 hz hn1
  have e : ((arr.toList.drop base).take k)[n] = arr.toList[base + n]'(by simpa using hn2) := by simp
  have ek : KA kf arr (base + n) = kf (arr.toList[base + n]'(by simpa using hn2)) := by unfold KA; rw [Array.getElem?_eq_getElem hn2]; simp
  rw [e, ← ek]
  have h := hb n hn1
  unfold bey at h
  cases left
  · have := hne rfl _ hn2
    simp only [Bool.false_eq_true, if_false, Bool.not_eq_true', decide_eq_false_iff_not] at h; exact ar14 this h
  · simpa using h
theorem head_lt {b : Array Keyed} (sb : SrtL kf b.toList) {ib : Nat} {y : Keyed} (hy : b[ib]? = some y) {x : Keyed} (h : kf x < kf y) : ∀ z ∈ b.toList.drop ib, RK kf x z := by
  obtain ⟨hz, e0⟩ := Array.getElem?_eq_some_iff.mp hy
  intro z hz'
  have ed : b.toList.drop ib = y :: b.toList.drop (ib + 1) := by rw [List.drop_eq_getElem_cons (by simpa using hz)]; simp [e0]
  have sd := srt_drop sb ib
  rw [ed] at hz' sd
  rcases List.mem_cons.mp hz' with rfl | q
  · exact h
  · exact Nat.lt_trans h ((List.pairwise_cons.mp sd).1 z q)
theorem KA_some {b : Array Keyed} {ib : Nat} {y : Keyed} (hy : b[ib]? = some y) : KA kf b ib = kf y := by unfold KA; rw [hy]
noncomputable abbrev GS := Option (Array Keyed) × Array Keyed × Nat × Nat × Nat × Nat × Nat
/-- the gallop loop's turn in three parts, each named once -/
noncomputable def loC (a b out : Array Keyed) (ia ib g ac bc : Nat) : StateT SortSt Sem (ForInStep GS) := do
  let x ← elem' a ia
  if (ia + 1 + 1 == a.size) = true then pure (.done (some (out.push x ++ b.extract ib b.size ++ a.extract (ia + 1) a.size), out.push x, ia + 1, ib, g, ac, bc))
  else if (decide (ac < 7) && decide (bc < 7)) = true then pure (.done (none, out.push x, ia + 1, ib, g, ac, bc)) else pure (.yield (none, out.push x, ia + 1, ib, g, ac, bc))
noncomputable def loB (a b out : Array Keyed) (ia ib g ac bc : Nat) : StateT SortSt Sem (ForInStep GS) := do
  let y ← elem' b ib
  if (ib + 1 == b.size) = true then pure (.done (some (out.push y ++ a.extract ia a.size ++ b.extract (ib + 1) b.size), out.push y, ia, ib + 1, g, ac, bc))
  else do
    let x ← elem' a ia
    let r ← gallop' true x b (ib + 1) (b.size - (ib + 1)) 0
    match r with
    | some k =>
      if k > 0 then
        if (ib + 1 + k == b.size) = true then pure (.done (some (out.push y ++ b.extract (ib + 1) (ib + 1 + k) ++ a.extract ia a.size ++ b.extract (ib + 1 + k) b.size), out.push y ++ b.extract (ib + 1) (ib + 1 + k), ia, ib + 1 + k, g, ac, k))
        else loC a b (out.push y ++ b.extract (ib + 1) (ib + 1 + k)) ia (ib + 1 + k) g ac k
      else loC a b (out.push y) ia (ib + 1) g ac k
    | _ => pure (.done (some (out.push y ++ a.extract ia a.size ++ b.extract (ib + 1) b.size), out.push y, ia, ib + 1, g, ac, bc))
noncomputable def loA (a b out : Array Keyed) (ia ib g ac bc : Nat) : StateT SortSt Sem (ForInStep GS) := do
  modify fun s => setG s g
  let y ← elem' b ib
  let r ← gallop' false y a ia (a.size - ia) 0
  match r with
  | some k =>
    if k > 0 then
      if (ia + k + 1 == a.size) = true then pure (.done (some (out ++ a.extract ia (ia + k) ++ b.extract ib b.size ++ a.extract (ia + k) a.size), out ++ a.extract ia (ia + k), ia + k, ib, g, k, bc))
      else if (ia + k == a.size) = true then pure (.done (some (out ++ a.extract ia (ia + k) ++ a.extract (ia + k) a.size ++ b.extract ib b.size), out ++ a.extract ia (ia + k), ia + k, ib, g, k, bc))
      else loB a b (out ++ a.extract ia (ia + k)) (ia + k) ib g k bc
    else loB a b out ia ib g k bc
  | _ => pure (.done (some (out ++ a.extract ia a.size ++ b.extract ib b.size), out, ia, ib, g, ac, bc))
noncomputable abbrev GI := Option (Array Keyed) × Array Keyed × Nat × Nat × Nat × Nat
noncomputable abbrev GO := Option (Array Keyed) × Array Keyed × Nat × Nat × Nat
noncomputable def loI' (a b : Array Keyed) (g : Nat) (out : Array Keyed) (ia ib ac bc : Nat) : StateT SortSt Sem (ForInStep GI) := do
  let y ← elem' b ib
  let x ← elem' a ia
  let r ← lt' y x
  match r with
  | some w =>
    if w = true then do
      let y ← elem' b ib
      if (ib + 1 == b.size) = true then pure (.done (some (out.push y ++ a.extract ia a.size ++ b.extract (ib + 1) b.size), out.push y, ia, ib + 1, 0, bc + 1))
      else if bc + 1 ≥ g then pure (.done (none, out.push y, ia, ib + 1, 0, bc + 1)) else pure (.yield (none, out.push y, ia, ib + 1, 0, bc + 1))
    else do
      let x ← elem' a ia
      if (ia + 1 + 1 == a.size) = true then pure (.done (some (out.push x ++ b.extract ib b.size ++ a.extract (ia + 1) a.size), out.push x, ia + 1, ib, ac + 1, 0))
      else if ac + 1 ≥ g then pure (.done (none, out.push x, ia + 1, ib, ac + 1, 0)) else pure (.yield (none, out.push x, ia + 1, ib, ac + 1, 0))
  | _ => pure (.done (some (out ++ a.extract ia a.size ++ b.extract ib b.size), out, ia, ib, ac, bc))
noncomputable def loI (a b : Array Keyed) (g : Nat) (c : GI) : StateT SortSt Sem (ForInStep GI) := loI' a b g c.2.1 c.2.2.1 c.2.2.2.1 c.2.2.2.2.1 c.2.2.2.2.2
noncomputable def loG' (a b out : Array Keyed) (ia ib g ac bc : Nat) : StateT SortSt Sem (ForInStep GS) := if g > 1 then loA a b out ia ib (g - 1) ac bc else loA a b out ia ib g ac bc
noncomputable def loG (a b : Array Keyed) (c : GS) : StateT SortSt Sem (ForInStep GS) := loG' a b c.2.1 c.2.2.1 c.2.2.2.1 c.2.2.2.2.1 c.2.2.2.2.2.1 c.2.2.2.2.2.2
noncomputable def loS2 (c : GS) : StateT SortSt Sem (ForInStep GO) := match c.1 with
  | some r => pure (.done (some r, c.2.1, c.2.2.1, c.2.2.2.1, c.2.2.2.2.1))
  | none => do
    modify fun s => setG s (c.2.2.2.2.1 + 1)
    pure (.yield (none, c.2.1, c.2.2.1, c.2.2.2.1, c.2.2.2.2.1 + 1))
noncomputable def loS1 (a b : Array Keyed) (g : Nat) (c : GI) : StateT SortSt Sem (ForInStep GO) := match c.1 with
  | some r => pure (.done (some r, c.2.1, c.2.2.1, c.2.2.2.1, g))
  | none => do
    rule "list.sort.gallop"
    let c2 ← forIn [0:a.size + b.size] ((none, c.2.1, c.2.2.1, c.2.2.2.1, g + 1, c.2.2.2.2.1, c.2.2.2.2.2) : GS) fun _ c => loG a b c
    loS2 c2
noncomputable def loT' (a b out : Array Keyed) (ia ib g : Nat) : StateT SortSt Sem (ForInStep GO) := do
  let c ← forIn [0:a.size + b.size] ((none, out, ia, ib, 0, 0) : GI) fun _ c => loI a b g c
  loS1 a b g c
noncomputable def loT (a b : Array Keyed) (c : GO) : StateT SortSt Sem (ForInStep GO) := loT' a b c.2.1 c.2.2.1 c.2.2.2.1 c.2.2.2.2
noncomputable def loEnd (c : GO) : StateT SortSt Sem (Array Keyed) := match c.1 with
  | some r => pure r
  | none => unsupported "internal:list.sort.merge-bound"
theorem fb_congr {β γ : Type} {a b : Nat} {i : β} {f g : Nat → β → StateT SortSt Sem (ForInStep β)} {k l : β → StateT SortSt Sem γ} (h1 : ∀ n c, f n c = g n c) (h2 : ∀ c, k c = l c) : (forIn [a:b] i f >>= k) = (forIn [a:b] i g >>= l) := by
  have e1 : f = g := funext fun n => funext fun c => h1 n c
  have e2 : k = l := funext h2
  rw [e1, e2]
theorem mergeLo_eq1 (a b : Array Keyed) : mergeLo' a b = (do
  rule "list.sort.merge-lo"
  let y ← elem' b 0
  if (1 == b.size) = true then pure (#[y] ++ a.extract 0 a.size ++ b.extract 1 b.size)
  else if (0 + 1 == a.size) = true then pure (#[y] ++ b.extract 1 b.size ++ a.extract 0 a.size)
  else do
    let st ← get
    let c ← forIn [0:a.size + b.size] ((none, #[y], 0, 1, gallopOf st) : GO) fun _ c => loT a b c
    loEnd c) := by
  rw [mergeLo_eq]
  refine bind_congr fun _ => bind_congr fun y => ?_
  refine ite_congr rfl (fun _ => rfl) fun _ => ite_congr rfl (fun _ => rfl) fun _ => bind_congr fun st => ?_
  refine fb_congr (fun _ c => ?_) (fun c => ?_)
  · refine fb_congr (fun _ c => rfl) (fun c1 => ?_)
    show _ = loS1 a b c.2.2.2.2 c1
    unfold loS1
    obtain ⟨r, c1⟩ := c1
    cases r with
    | some r => rfl
    | none =>
      refine bind_congr fun _ => fb_congr (fun _ c => rfl) (fun c2 => ?_)
      obtain ⟨r, c2⟩ := c2
      cases r <;> rfl
  · obtain ⟨r, c⟩ := c
    cases r <;> rfl
/-- between the turns: the merge goes on -/
inductive LoN {β : Type} (kf : Keyed → Nat) (a b : Array Keyed) (st : SortSt) (p : Nat) : (Option (Array Keyed) × Array Keyed × Nat × Nat × β) → SortSt → Prop
  | on {out : Array Keyed} {ia ib : Nat} {z : β} {g : Nat} (H : MInv kf a b out ia ib) (ha : ia + 1 < a.size) (hb : ib < b.size) (hp : p ≤ ia + ib) : LoN kf a b st p (none, out, ia, ib, z) (setG st g)
/-- the merge is done -/
inductive LoF {β : Type} (kf : Keyed → Nat) (a b : Array Keyed) (st : SortSt) : (Option (Array Keyed) × Array Keyed × Nat × Nat × β) → SortSt → Prop
  | fin {x out : Array Keyed} {ia ib : Nat} {z : β} {g : Nat} (h : MFin kf a b x) : LoF kf a b st (some x, out, ia, ib, z) (setG st g)
noncomputable def LoD {β : Type} (kf : Keyed → Nat) (a b : Array Keyed) (st : SortSt) (p : Nat) (c : Option (Array Keyed) × Array Keyed × Nat × Nat × β) (st2 : SortSt) : Prop := LoF kf a b st c st2 ∨ LoN kf a b st p c st2
noncomputable def LoStep {β : Type} (kf : Keyed → Nat) (a b : Array Keyed) (st : SortSt) (p q : Nat) (r : ForInStep (Option (Array Keyed) × Array Keyed × Nat × Nat × β)) (st2 : SortSt) : Prop := match r with
  | .yield c => LoN kf a b st q c st2
  | .done c => LoD kf a b st p c st2
noncomputable def LoOut {β : Type} (kf : Keyed → Nat) (a b : Array Keyed) (st : SortSt) (q : Nat) (r : ForInStep (Option (Array Keyed) × Array Keyed × Nat × Nat × β)) (st2 : SortSt) : Prop := match r with
  | .yield c => LoN kf a b st q c st2
  | .done c => LoF kf a b st c st2
theorem loC_c {M : Model} {a b out : Array Keyed} {ia ib g ac bc p q g2 : Nat} (sa : SrtL kf a.toList) (sb : SrtL kf b.toList) (hb1 : 1 ≤ b.size) (hl : KA kf b (b.size - 1) < KA kf a (a.size - 1)) {x : Keyed} (hx : a[ia]? = some x) (HD : MInv kf a b (out.push x) (ia + 1) ib) (ha : ia + 1 < a.size) (hb : ib < b.size) (hp : p ≤ ia + ib) (hq : q ≤ ia + ib + 1) :
    wpS M A E s (loC a b out ia ib g ac bc) (LoStep kf a b st p q) (setG st g2) := by
  refine wpS_bind (elem_c hx ?_)
  split
  · next e => exact wpS_pure (.inl (.fin (HD.lastA sa sb (by simpa using e) hb1 hl)))
  next e =>
  have e3 : ia + 1 + 1 ≠ a.size := by simpa using e
  split
  · exact wpS_pure (.inr (.on HD (by exact ar209 e3 ha) (by exact ar61 hb) (by exact ar210 hp)))
  · exact wpS_pure (.on HD (by exact ar209 e3 ha) (by exact ar61 hb) (by exact ar211 hq))
theorem loB_c (hc : CmpOk prog w A s κ kf arr0) (hk : kindOf st = κ) {a b out : Array Keyed} (oa : Of a arr0) (ob : Of b arr0) (sa : SrtL kf a.toList) (sb : SrtL kf b.toList) (hb1 : 1 ≤ b.size) (hl : KA kf b (b.size - 1) < KA kf a (a.size - 1))
    (hne : ∀ i j, i < a.size → j < b.size → KA kf a i ≠ KA kf b j) {ia ib g ac bc p q g2 : Nat} (H : MInv kf a b out ia ib) (ha : ia + 1 < a.size) (hb : ib < b.size) (hyx : ∀ y x, b[ib]? = some y → a[ia]? = some x → kf y < kf x) (hp : p ≤ ia + ib) (hq : q ≤ ia + ib + 1) :
    wpS (model prog w) A E s (loB a b out ia ib g ac bc) (LoStep kf a b st p q) (setG st g2) := by
  obtain ⟨y, hy, my, ey⟩ := at_of (kf := kf) ob hb
  obtain ⟨x, hx, mx, ex⟩ := at_of (kf := kf) oa (Nat.lt_of_succ_lt ha)
  refine wpS_bind (elem_c hy ?_)
  have HB := H.pushB sa sb hy (fun _ => by rw [ex]; exact hyx y x hy hx)
  split
  · next e => exact wpS_pure (.inl (.fin (HB.doneA sa (by simpa using e))))
  next e =>
  have hb' : ib + 1 < b.size := by have q' : ib + 1 ≠ b.size := by simpa using e
                                   exact ar212 q' hb
  refine wpS_bind (elem_c hx ?_)
  refine wpS_bind (gall_c hc (by exact hk) ob mx (by exact ar213 hb') (by exact ar214 hb) (fun p q r1 r2 r3 => seg_srt sb p q (by exact ar16) r2 (by exact ar215 r3 hb)) fun k2 hk2 u1 u2 => ?_)
  have HC := HB.takeB sb (k := k2) (by exact ar216 hb hk2) (fun z hz => head_lt sa hx (bey_chunk (by exact ar216 hb hk2) u1 (fun q => absurd q (by decide)) z hz))
  have nxt : ∀ hlt : ib + 1 + k2 < b.size, kf x < KA kf b (ib + 1 + k2) := fun hlt => by
    have u := u2 k2 (Nat.le_refl _) (by exact ar217 hlt)
    have n' := hne _ (ib + 1 + k2) (Nat.lt_of_succ_lt ha) hlt
    rw [ex] at n'
    unfold bey at u
    simp only [if_true, decide_eq_false_iff_not] at u
    exact ar14 n' u
  have HD := HC.pushA sa sb hx nxt
  dsimp only
  by_cases k2p : k2 > 0
  · rw [if_pos k2p]
    split
    · next e => exact wpS_pure (.inl (.fin (HC.doneA sa (by simpa using e))))
    next e =>
    have e2 : ib + 1 + k2 ≠ b.size := by simpa using e
    exact loC_c sa sb hb1 hl hx HD ha (by exact ar218 e2 hb hk2) (by exact ar219 hp) (by exact ar220 hq)
  · rw [if_neg k2p]
    have k20 : k2 = 0 := by exact ar221 k2p
    subst k20
    rw [show b.extract (ib + 1) (ib + 1 + 0) = #[] by simp; exact ar222, Array.append_empty] at HD
    exact loC_c sa sb hb1 hl hx HD ha hb' (by exact ar223 hp) (by exact ar224 hq)
theorem loA_c (hc : CmpOk prog w A s κ kf arr0) (hk : kindOf st = κ) {a b out : Array Keyed} (oa : Of a arr0) (ob : Of b arr0) (sa : SrtL kf a.toList) (sb : SrtL kf b.toList) (hb1 : 1 ≤ b.size) (hl : KA kf b (b.size - 1) < KA kf a (a.size - 1))
    (hne : ∀ i j, i < a.size → j < b.size → KA kf a i ≠ KA kf b j) {ia ib g ac bc p q g2 : Nat} (H : MInv kf a b out ia ib) (ha : ia + 1 < a.size) (hb : ib < b.size) (hp : p ≤ ia + ib) (hq : q ≤ ia + ib + 1) :
    wpS (model prog w) A E s (loA a b out ia ib g ac bc) (LoStep kf a b st p q) (setG st g2) := by
  obtain ⟨y, hy, my, ey⟩ := at_of (kf := kf) ob hb
  refine wpS_bind (wpS_modify ?_)
  refine wpS_bind (elem_c hy ?_)
  refine wpS_bind (gall_c hc (by exact hk) oa my (by exact ar225 ha) (by exact ar226 ha) (fun p q r1 r2 r3 => seg_srt sa p q (by exact ar16) r2 (by exact ar227 ha r3)) fun k hkk t1 t2 => ?_)
  have hyk : ∀ x, a[ia + k]? = some x → kf y < kf x := fun x hx => by
    have hz := (Array.getElem?_eq_some_iff.mp hx).1
    have u := t2 k (Nat.le_refl _) (by exact ar228 hz)
    unfold bey at u
    simp only [Bool.false_eq_true, if_false, Bool.not_eq_false', decide_eq_true_eq] at u
    rw [KA_some hx] at u
    exact u
  dsimp only
  by_cases kp : k > 0
  · rw [if_pos kp]
    have H := H.takeA sa (k := k) (by exact ar229 ha hkk) (fun z hz => head_lt sb hy (bey_chunk (by exact ar229 ha hkk) t1 (fun _ i hi => by rw [← ey]; exact hne i ib hi hb) z hz))
    split
    · next e => exact wpS_pure (.inl (.fin (H.lastA sa sb (by simpa using e) hb1 hl)))
    next e =>
    have e1 : ia + k + 1 ≠ a.size := by simpa using e
    split
    · next e => exact wpS_pure (.inl (.fin (H.doneB sb (by simpa using e))))
    next e =>
    have e0 : ia + k ≠ a.size := by simpa using e
    exact loB_c hc hk oa ob sa sb hb1 hl hne H (by exact ar230 e1 ha e0 hkk) hb (fun y' x h1 h2 => by rw [hy] at h1; cases h1; exact hyk x h2) (by exact ar231 hp) (by exact ar232 hq)
  · rw [if_neg kp]
    have k0 : k = 0 := by exact ar221 kp
    exact loB_c hc hk oa ob sa sb hb1 hl hne H ha hb (fun y' x h1 h2 => by rw [hy] at h1; cases h1; exact hyk x (by rw [k0]; exact h2)) hp hq
theorem loI_c (hc : CmpOk prog w A s κ kf arr0) (hk : kindOf st = κ) {a b out : Array Keyed} (oa : Of a arr0) (ob : Of b arr0) (sa : SrtL kf a.toList) (sb : SrtL kf b.toList) (hb1 : 1 ≤ b.size) (hl : KA kf b (b.size - 1) < KA kf a (a.size - 1))
    (hne : ∀ i j, i < a.size → j < b.size → KA kf a i ≠ KA kf b j) {ia ib g ac bc p q g2 : Nat} (H : MInv kf a b out ia ib) (ha : ia + 1 < a.size) (hb : ib < b.size) (hp : p ≤ ia + ib + 1) (hq : q ≤ ia + ib + 1) :
    wpS (model prog w) A E s (loI' a b g out ia ib ac bc) (LoStep kf a b st p q) (setG st g2) := by
  obtain ⟨y, hy, my, ey⟩ := at_of (kf := kf) ob hb
  obtain ⟨x, hx, mx, ex⟩ := at_of (kf := kf) oa (Nat.lt_of_succ_lt ha)
  refine wpS_bind (elem_c hy (wpS_bind (elem_c hx (wpS_bind (lts_c hc (by exact hk) my mx ?_)))))
  dsimp only
  by_cases hlt : kf y < kf x
  · rw [decide_eq_true hlt, if_pos rfl]
    refine wpS_bind (elem_c hy ?_)
    have H' := H.pushB sa sb hy (fun _ => by rw [ex]; exact hlt)
    split
    · next e => exact wpS_pure (.inl (.fin (H'.doneA sa (by simpa using e))))
    · next e =>
      have e' : ib + 1 ≠ b.size := by simpa using e
      split
      · exact wpS_pure (.inr (.on H' ha (by exact ar212 e' hb) (by exact ar233 hp)))
      · exact wpS_pure (.on H' ha (by exact ar212 e' hb) (by exact ar233 hq))
  · rw [decide_eq_false hlt, if_neg (by decide)]
    refine wpS_bind (elem_c hx ?_)
    have hn := hne ia ib (by exact ar234 ha) hb
    have H' := H.pushA sa sb hx (fun _ => by rw [ey]; rw [ex, ey] at hn; exact ar14 hn hlt)
    split
    · next e => exact wpS_pure (.inl (.fin (H'.lastA sa sb (by simpa using e) hb1 hl)))
    · next e =>
      have e' : ia + 1 + 1 ≠ a.size := by simpa using e
      split
      · exact wpS_pure (.inr (.on H' (by exact ar209 e' ha) hb (by exact ar211 hp)))
      · exact wpS_pure (.on H' (by exact ar209 e' ha) hb (by exact ar211 hq))
theorem loS1_c (hc : CmpOk prog w A s κ kf arr0) (hk : kindOf st = κ) {a b : Array Keyed} (oa : Of a arr0) (ob : Of b arr0) (sa : SrtL kf a.toList) (sb : SrtL kf b.toList) (hb1 : 1 ≤ b.size) (hl : KA kf b (b.size - 1) < KA kf a (a.size - 1))
    (hne : ∀ i j, i < a.size → j < b.size → KA kf a i ≠ KA kf b j) {g q : Nat} {c : GI} {st2 : SortSt} (h : LoD kf a b st q c st2) : wpS (model prog w) A E s (loS1 a b g c) (LoOut kf a b st q) st2 := by
  rcases h with @⟨x, out, ia, ib, z, g', hf⟩ | ⟨H, ha, hb, hp⟩
  · exact wpS_pure (LoF.fin hf)
  refine wpS_bind (wpS_lift (wpAny_rule ⟨rfl, ?_⟩))
  refine wpS_bind (wpS_mono (wpS_forRange (I := fun j c st2 => LoN kf a b st (q + j) c st2) (Q := fun c st2 => LoD kf a b st q c st2) ?_ ?_ (.on H ha hb hp)) ?_)
  · rintro j c st2 _ _ ⟨H, ha, hb, hp⟩
    have fin : ∀ {g z1 z2 : Nat} {g2 : Nat}, wpS (model prog w) A E s (loA a b _ _ _ g z1 z2) (LoStep kf a b st q (q + (j + 1))) (setG st g2) := loA_c hc hk oa ob sa sb hb1 hl hne H ha hb (by exact ar235 hp) (by exact ar236 hp)
    show wpS _ _ _ _ (loG' _ _ _ _ _ _ _ _) _ _
    unfold loG'
    split
    · exact wpS_mono fin fun r st2 hr => by cases r <;> exact hr
    · exact wpS_mono fin fun r st2 hr => by cases r <;> exact hr
  · rintro c st2 ⟨H, ha, hb, hp⟩
    exfalso; exact ar237 hp ha hb
  · rintro c st2 (@⟨x, out, ia, ib, z, g', hf⟩ | ⟨H, ha, hb, hp⟩)
    · exact wpS_pure (LoF.fin hf)
    · exact wpS_bind (wpS_modify (wpS_pure (LoN.on H ha hb hp)))
theorem mlo_c (hc : CmpOk prog w A s κ kf arr0) (hk : kindOf st = κ) {a b : Array Keyed} (oa : Of a arr0) (ob : Of b arr0) (sa : SrtL kf a.toList) (sb : SrtL kf b.toList) (ha1 : 1 ≤ a.size) (hb1 : 1 ≤ b.size) (h0 : KA kf b 0 < KA kf a 0) (hl : KA kf b (b.size - 1) < KA kf a (a.size - 1))
    (hne : ∀ i j, i < a.size → j < b.size → KA kf a i ≠ KA kf b j) {Q : Array Keyed → SortSt → Prop} (h : ∀ out g, MFin kf a b out → Q out (setG st g)) :
    wpS (model prog w) A E s (mergeLo' a b) Q st := by
  rw [mergeLo_eq1]
  refine wpS_bind (wpS_lift (wpAny_rule ⟨rfl, ?_⟩))
  obtain ⟨y0, hy0, my0, ey0⟩ := at_of (kf := kf) ob (i := 0) (by exact ar10 hb1)
  refine wpS_bind (elem_c hy0 ?_)
  have H0 : MInv kf a b #[y0] 0 1 := by
    have := MInv.pushB (kf := kf) (a := a) (b := b) (out := #[]) (ia := 0) (ib := 0) ⟨by exact ar16, by exact ar16, by simp, List.Pairwise.nil, by simp, by simp⟩ sa sb hy0 (fun _ => by rw [← ey0]; exact h0)
    simpa using this
  have est : setG st (gallopOf st) = st := rfl
  split
  · next c1 =>
    have := h _ (gallopOf st) (H0.doneA sa (by simpa using c1))
    rw [est] at this
    exact wpS_pure this
  next c1 =>
  split
  · next c2 =>
    have := h _ (gallopOf st) (H0.lastA sa sb (by simpa using c2) hb1 hl)
    rw [est] at this
    exact wpS_pure this
  next c2 =>
  have c1' : 1 ≠ b.size := by simpa using c1
  have c2' : 0 + 1 ≠ a.size := by simpa using c2
  refine wpS_bind (wpS_get ?_)
  refine wpS_bind (wpS_mono (wpS_forRange (I := fun i c st2 => LoN kf a b st i c st2) (Q := fun c st2 => LoF kf a b st c st2) ?_ ?_ (.on (g := gallopOf st) H0 (by exact ar238 c2' ha1) (by exact ar239 c1' hb1) (by exact ar240))) ?_)
  · rintro i c st2 _ _ ⟨H, ha, hb, hp⟩
    refine wpS_bind (wpS_mono (wpS_forRange (I := fun j c st2 => LoN kf a b st (i + j) c st2) (Q := fun c st2 => LoD kf a b st (i + 1) c st2) ?_ ?_ (.on H ha hb (by omega))) ?_)
    · rintro j c st2 _ _ (@⟨out, ia, ib, z, g2, H, ha, hb, hp⟩)
      exact wpS_mono (loI_c (ia := ia) (ib := ib) hc hk oa ob sa sb hb1 hl hne (p := i + 1) (q := i + (j + 1)) H ha hb (by exact ar241 hp) (by exact ar236 hp)) fun r st2 hr => by cases r <;> exact hr
    · rintro c st2 ⟨H, ha, hb, hp⟩
      exfalso; exact ar237 hp ha hb
    · intro c st2 hd
      exact wpS_mono (loS1_c hc hk oa ob sa sb hb1 hl hne hd) fun r st2 hr => by cases r <;> exact hr
  · rintro c st2 ⟨H, ha, hb, hp⟩
    exfalso; exact ar242 hp ha hb
  · rintro c st2 (@⟨x, out, ia, ib, z, g', hf⟩)
    exact wpS_pure (h _ _ hf)
end
end
section
-- S8h
open PySem.Spec
section
variable {kf : Keyed → Nat} {a b out : Array Keyed} {na nb : Nat}
structure HInv (kf : Keyed → Nat) (a b out : Array Keyed) (na nb : Nat) : Prop where
  la : na ≤ a.size
  lb : nb ≤ b.size
  perm : out.toList.reverse.Perm (a.toList.drop na ++ b.toList.drop nb)
  srt : SrtL kf out.toList.reverse
  ua : ∀ y ∈ out.toList, ∀ x ∈ a.toList.take na, RK kf x y
  ub : ∀ y ∈ out.toList, ∀ x ∈ b.toList.take nb, RK kf x y
theorem HInv.symm (H : HInv kf a b out na nb) : HInv kf b a out nb na := ⟨H.lb, H.la, H.perm.trans List.perm_append_comm, H.srt, H.ub, H.ua⟩
theorem srt_take {l : List Keyed} (h : SrtL kf l) (i : Nat) : SrtL kf (l.take i) := List.Pairwise.sublist (List.take_sublist i l) h
theorem ext_first (a : Array Keyed) (i : Nat) : (a.extract 0 i).toList = a.toList.take i := by
  rw [Array.toList_extract, List.extract_eq_take_drop]; simp
theorem HInv.takeA (H : HInv kf a b out na nb) (sa : SrtL kf a.toList) {k : Nat} (hk : k ≤ na) (hlt : ∀ y ∈ (a.toList.take na).drop k, ∀ x ∈ b.toList.take nb, RK kf x y) : HInv kf a b (out ++ (a.extract k na).reverse) k nb := by
  have e : (out ++ (a.extract k na).reverse).toList.reverse = (a.toList.take na).drop k ++ out.toList.reverse := by
    rw [Array.toList_append, Array.toList_reverse, List.reverse_append, List.reverse_reverse, Array.toList_extract, List.extract_eq_take_drop, List.drop_take]
  have mem : ∀ y, y ∈ (out ++ (a.extract k na).reverse).toList ↔ y ∈ (a.toList.take na).drop k ∨ y ∈ out.toList := fun y => by
    rw [← List.mem_reverse, e, List.mem_append, List.mem_reverse]
  have htake : a.toList.take na = a.toList.take k ++ (a.toList.take na).drop k := by
    have := (List.take_append_drop k (a.toList.take na)).symm
    rwa [List.take_take, Nat.min_eq_left hk] at this
  have hdrop : a.toList.drop k = (a.toList.take na).drop k ++ a.toList.drop na := by
    conv => lhs; rw [← List.take_append_drop na a.toList]
    rw [List.drop_append_of_le_length (by rw [List.length_take]; have := H.la; simp; exact ar424 this hk)]
  have st : SrtL kf (a.toList.take k ++ (a.toList.take na).drop k) := by rw [← htake]; exact srt_take sa na
  refine ⟨Nat.le_trans hk H.la, H.lb, ?_, ?_, ?_, ?_⟩
  · rw [e, hdrop, List.append_assoc]
    exact List.Perm.append_left _ H.perm
  · rw [e]
    refine List.pairwise_append.mpr ⟨(List.pairwise_append.mp st).2.1, H.srt, fun x hx y hy => H.ua y (List.mem_reverse.mp hy) x (List.mem_of_mem_drop hx)⟩
  · intro y hy x hx
    rcases (mem y).mp hy with q | q
    · exact (List.pairwise_append.mp st).2.2 x hx y q
    · exact H.ua y q x (by rw [htake]; exact List.mem_append_left _ hx)
  · intro y hy x hx
    rcases (mem y).mp hy with q | q
    · exact hlt y q x hx
    · exact H.ub y q x hx
theorem HInv.takeB (H : HInv kf a b out na nb) (sb : SrtL kf b.toList) {k : Nat} (hk : k ≤ nb) (hlt : ∀ y ∈ (b.toList.take nb).drop k, ∀ x ∈ a.toList.take na, RK kf x y) : HInv kf a b (out ++ (b.extract k nb).reverse) na k :=
  (H.symm.takeA sb hk hlt).symm
theorem take_lt {b : Array Keyed} (sb : SrtL kf b.toList) {nb : Nat} {y : Keyed} (hy : b[nb]? = some y) : ∀ z ∈ b.toList.take (nb + 1), kf z ≤ kf y := by
  obtain ⟨hz, e0⟩ := Array.getElem?_eq_some_iff.mp hy
  intro z hz'
  have ed : b.toList.take (nb + 1) = b.toList.take nb ++ [y] := by
    rw [List.take_add_one, List.getElem?_eq_getElem (by simpa using hz)]; simp [e0]
  have sd := srt_take sb (nb + 1)
  rw [ed] at hz' sd
  rcases List.mem_append.mp hz' with q | q
  · exact Nat.le_of_lt ((List.pairwise_append.mp sd).2.2 z q y (List.mem_singleton.mpr rfl))
  · rw [List.mem_singleton] at q; subst q; exact Nat.le_refl _
theorem HInv.pushA (H : HInv kf a b out (na + 1) nb) (sa : SrtL kf a.toList) (sb : SrtL kf b.toList) {x : Keyed} (hx : a[na]? = some x) (hlt : ∀ y, 1 ≤ nb → b[nb - 1]? = some y → kf y < kf x) : HInv kf a b (out.push x) na nb := by
  obtain ⟨hz, e0⟩ := Array.getElem?_eq_some_iff.mp hx
  have e1 : (a.toList.take (na + 1)).drop na = [x] := by
    rw [List.drop_take, show na + 1 - na = 1 by exact ar425, List.drop_eq_getElem_cons (by simpa using hz)]
    simp [e0]
  have e2 : (a.extract na (na + 1)).reverse = #[x] := by
    apply Array.toList_inj.mp
    rw [Array.toList_reverse, ext_toList, List.drop_eq_getElem_cons (by simpa using hz)]
    simp [e0]
  have := H.takeA sa (k := na) (by exact ar426) (by
    rw [e1]
    intro y hy z hz
    rw [List.mem_singleton] at hy
    subst hy
    rcases Nat.eq_zero_or_pos nb with q | q
    · rw [q] at hz; exact absurd hz (by simp)
    · have hlb := H.lb
      have hb : b[nb - 1]? = some (b[nb - 1]'(by exact ar427 q hlb)) := Array.getElem?_eq_getElem (by exact ar427 q hlb)
      have := take_lt sb hb z (by rw [show nb - 1 + 1 = nb by exact ar428 q]; exact hz)
      exact Nat.lt_of_le_of_lt this (hlt _ q hb))
  rw [e2] at this
  rwa [← Array.push_eq_append] at this
theorem HInv.pushB (H : HInv kf a b out na (nb + 1)) (sa : SrtL kf a.toList) (sb : SrtL kf b.toList) {x : Keyed} (hx : b[nb]? = some x) (hlt : ∀ y, 1 ≤ na → a[na - 1]? = some y → kf y < kf x) : HInv kf a b (out.push x) na nb :=
  (H.symm.pushA sb sa hx hlt).symm
/-- nothing of the first is left -/
theorem HInv.doneA (H : HInv kf a b out na nb) (sb : SrtL kf b.toList) (ha : na = 0) : MFin kf a b (a.extract 0 na ++ b.extract 0 nb ++ out.reverse) := by
  have e : (a.extract 0 na ++ b.extract 0 nb ++ out.reverse).toList = b.toList.take nb ++ out.toList.reverse := by
    rw [Array.toList_append, Array.toList_append, ext_first, ext_first, Array.toList_reverse, ha, List.take_zero, List.nil_append]
  unfold MFin
  rw [e]
  refine ⟨?_, List.pairwise_append.mpr ⟨srt_take sb nb, H.srt, fun x hx y hy => H.ub y (List.mem_reverse.mp hy) x hx⟩⟩
  refine (H.perm.append_left _).trans ?_
  rw [ha, List.drop_zero]
  refine List.perm_append_comm.trans ?_
  rw [List.append_assoc]
  refine List.Perm.append_left _ (List.perm_append_comm.trans ?_)
  rw [List.take_append_drop]
theorem HInv.doneB (H : HInv kf a b out na nb) (sa : SrtL kf a.toList) (hb : nb = 0) : MFin kf a b (a.extract 0 na ++ b.extract 0 nb ++ out.reverse) := by
  have h := H.symm.doneA sa hb
  have e : (a.extract 0 na ++ b.extract 0 nb ++ out.reverse) = (b.extract 0 nb ++ a.extract 0 na ++ out.reverse) := by
    apply Array.toList_inj.mp
    rw [Array.toList_append, Array.toList_append, Array.toList_append, Array.toList_append, ext_first b, hb, List.take_zero, List.nil_append, List.append_nil]
  rw [e]
  exact ⟨h.1.trans List.perm_append_comm, h.2⟩
/-- one of the second is left, and it is the first of all -/
theorem HInv.firstB (H : HInv kf a b out na nb) (sa : SrtL kf a.toList) (sb : SrtL kf b.toList) (hb : nb = 1) (hf : KA kf b 0 < KA kf a 0) : MFin kf a b (b.extract 0 nb ++ a.extract 0 na ++ out.reverse) := by
  subst hb
  have hlb := H.lb
  have e : (b.extract 0 1 ++ a.extract 0 na ++ out.reverse).toList = b.toList.take 1 ++ (a.toList.take na ++ out.toList.reverse) := by
    rw [Array.toList_append, Array.toList_append, ext_first, ext_first, Array.toList_reverse, List.append_assoc]
  have eb : b.toList.take 1 = [b[0]'(by exact ar10 hlb)] := by
    have : b.toList = b[0]'(by exact ar10 hlb) :: b.toList.drop 1 := by
      have := List.drop_eq_getElem_cons (l := b.toList) (i := 0) (by simpa using (by exact ar10 hlb : 0 < b.size))
      rw [List.drop_zero] at this
      simpa using this
    rw [this]; rfl
  unfold MFin
  rw [e]
  constructor
  · refine ((H.perm.append_left _).append_left _).trans ?_
    rw [← List.append_assoc (List.take na a.toList), List.take_append_drop]
    refine List.perm_append_comm.trans ?_
    rw [List.append_assoc]
    refine List.Perm.append_left _ (List.perm_append_comm.trans ?_)
    rw [List.take_append_drop]
  · refine List.pairwise_append.mpr ⟨srt_take sb 1, List.pairwise_append.mpr ⟨srt_take sa na, H.srt, fun x hx y hy => H.ua y (List.mem_reverse.mp hy) x hx⟩, fun x hx y hy => ?_⟩
    rcases List.mem_append.mp hy with q | q
    · rw [eb, List.mem_singleton] at hx
      subst hx
      have ek : KA kf b 0 = kf (b[0]'(by exact ar10 hlb)) := KA_some (Array.getElem?_eq_getElem (by exact ar10 hlb))
      obtain ⟨n, hn, rfl⟩ := List.getElem_of_mem (List.mem_of_mem_take q)
      have hn' : n < a.size := by simpa using hn
      have en : KA kf a n = kf (a.toList[n]) := by unfold KA; rw [Array.getElem?_eq_getElem hn']; simp
      have sA := seg_srt sa
      show kf _ < kf _
      rw [← en, ← ek]
      rcases Nat.eq_zero_or_pos n with r | r
      · rw [r]; exact hf
      · exact Nat.lt_trans hf (sA 0 n (by exact ar429) r hn')
    · exact H.ub y (List.mem_reverse.mp q) x hx
end
end
section
-- S9
open PySem.Spec
theorem mergeHi_eq (a b : Array Keyed) : mergeHi' a b = (do
  rule "list.sort.merge-hi"
  let total := a.size + b.size
  let done (out : Array Keyed) (na nb : Nat) := a.extract 0 na ++ b.extract 0 nb ++ out.reverse
  let firstOfB (out : Array Keyed) (na nb : Nat) := b.extract 0 nb ++ a.extract 0 na ++ out.reverse
  let mut na := a.size - 1
  let mut nb := b.size
  let mut out : Array Keyed := #[← elem' a na]
  if na == 0 then return done out na nb
  if nb == 1 then return firstOfB out na nb
  let mut minGallop := gallopOf (← get)
  for _ in [0:total] do
    let mut acount := 0
    let mut bcount := 0
    for _ in [0:total] do
      let some aWins ← lt' (← elem' b (nb - 1)) (← elem' a (na - 1)) | return done out na nb
      if aWins then
        na := na - 1; out := out.push (← elem' a na); acount := acount + 1; bcount := 0
        if na == 0 then return done out na nb
        if acount ≥ minGallop then break
      else
        nb := nb - 1; out := out.push (← elem' b nb); bcount := bcount + 1; acount := 0
        if nb == 1 then return firstOfB out na nb
        if bcount ≥ minGallop then break
    rule "list.sort.gallop"
    minGallop := minGallop + 1
    for _ in [0:total] do
      if minGallop > 1 then minGallop := minGallop - 1
      modify fun s => setG s minGallop
      let some at_ ← gallop' false (← elem' b (nb - 1)) a 0 na (na - 1) | return done out na nb
      let k := na - at_
      acount := k
      if k > 0 then
        out := out ++ (a.extract at_ na).reverse; na := at_
        if na == 0 then return done out na nb
      nb := nb - 1; out := out.push (← elem' b nb)
      if nb == 1 then return firstOfB out na nb
      let some at_ ← gallop' true (← elem' a (na - 1)) b 0 nb (nb - 1) | return done out na nb
      let k := nb - at_
      bcount := k
      if k > 0 then
        out := out ++ (b.extract at_ nb).reverse; nb := at_
        if nb == 1 then return firstOfB out na nb
        if nb == 0 then return done out na nb
      na := na - 1; out := out.push (← elem' a na)
      if na == 0 then return done out na nb
      if acount < 7 && bcount < 7 then break
    minGallop := minGallop + 1
    modify fun s => setG s minGallop
  unsupported "internal:list.sort.merge-bound") := rfl
section
variable {prog : Program} {w : World} {A : Around} {E : Value → Shared → Prop} {s : Shared} {κ : SortKind} {kf : Keyed → Nat} {arr0 : Array Keyed} {st : SortSt}
theorem bey_above {left : Bool} {key : Keyed} {arr : Array Keyed} {n k : Nat} (hz : n ≤ arr.size) (hb : ∀ i, k ≤ i → i < n → bey left kf key arr 0 i = false) (hne : left = true → ∀ i, i < arr.size → KA kf arr i ≠ kf key) : ∀ x ∈ (arr.toList.take n).drop k, kf key < kf x := by
  intro x hx
  obtain ⟨m, hm, rfl⟩ := List.getElem_of_mem hx
  rw [List.length_drop, List.length_take] at hm
  have hn2 : k + m < arr.size := by exact ar243 hm hz
  have e : ((arr.toList.take n).drop k)[m]'(by rw [List.length_drop, List.length_take]; exact hm) = arr.toList[k + m]'(by simpa using hn2) := by simp
  have ek : KA kf arr (k + m) = kf (arr.toList[k + m]'(by simpa using hn2)) := by unfold KA; rw [Array.getElem?_eq_getElem hn2]; simp
  rw [e, ← ek]
  have h := hb (k + m) (by exact ar32) (by exact ar42 hm)
  unfold bey at h
  rw [Nat.zero_add] at h
  cases left
  · simpa using h
  · have := hne rfl _ hn2
    simp only [if_true, decide_eq_false_iff_not] at h; exact ar78 this h
noncomputable abbrev HS := Option (Array Keyed) × Nat × Nat × Array Keyed × Nat × Nat × Nat
noncomputable abbrev HI := Option (Array Keyed) × Nat × Nat × Array Keyed × Nat × Nat
noncomputable abbrev HO := Option (Array Keyed) × Nat × Nat × Array Keyed × Nat
/-- the gallop loop's turn in three parts (na, nb: less one already where said) -/
noncomputable def hiC (a b out : Array Keyed) (na nb g ac bc : Nat) : StateT SortSt Sem (ForInStep HS) := do
  let x ← elem' a na
  if (na == 0) = true then pure (.done (some (a.extract 0 na ++ b.extract 0 nb ++ (out.push x).reverse), na, nb, out.push x, g, ac, bc))
  else if (decide (ac < 7) && decide (bc < 7)) = true then pure (.done (none, na, nb, out.push x, g, ac, bc)) else pure (.yield (none, na, nb, out.push x, g, ac, bc))
noncomputable def hiB (a b out : Array Keyed) (na nb g ac bc : Nat) : StateT SortSt Sem (ForInStep HS) := do
  let y ← elem' b nb
  if (nb == 1) = true then pure (.done (some (b.extract 0 nb ++ a.extract 0 na ++ (out.push y).reverse), na, nb, out.push y, g, ac, bc))
  else do
    let x ← elem' a (na - 1)
    let r ← gallop' true x b 0 nb (nb - 1)
    match r with
    | some k =>
      if nb - k > 0 then
        if (k == 1) = true then pure (.done (some (b.extract 0 k ++ a.extract 0 na ++ (out.push y ++ (b.extract k nb).reverse).reverse), na, k, out.push y ++ (b.extract k nb).reverse, g, ac, nb - k))
        else if (k == 0) = true then pure (.done (some (a.extract 0 na ++ b.extract 0 k ++ (out.push y ++ (b.extract k nb).reverse).reverse), na, k, out.push y ++ (b.extract k nb).reverse, g, ac, nb - k))
        else hiC a b (out.push y ++ (b.extract k nb).reverse) (na - 1) k g ac (nb - k)
      else hiC a b (out.push y) (na - 1) nb g ac (nb - k)
    | _ => pure (.done (some (a.extract 0 na ++ b.extract 0 nb ++ (out.push y).reverse), na, nb, out.push y, g, ac, bc))
noncomputable def hiA (a b out : Array Keyed) (na nb g ac bc : Nat) : StateT SortSt Sem (ForInStep HS) := do
  modify fun s => setG s g
  let y ← elem' b (nb - 1)
  let r ← gallop' false y a 0 na (na - 1)
  match r with
  | some k =>
    if na - k > 0 then
      if (k == 0) = true then pure (.done (some (a.extract 0 k ++ b.extract 0 nb ++ (out ++ (a.extract k na).reverse).reverse), k, nb, out ++ (a.extract k na).reverse, g, na - k, bc))
      else hiB a b (out ++ (a.extract k na).reverse) k (nb - 1) g (na - k) bc
    else hiB a b out na (nb - 1) g (na - k) bc
  | _ => pure (.done (some (a.extract 0 na ++ b.extract 0 nb ++ out.reverse), na, nb, out, g, ac, bc))
noncomputable def hiI' (a b : Array Keyed) (g na nb : Nat) (out : Array Keyed) (ac bc : Nat) : StateT SortSt Sem (ForInStep HI) := do
  let y ← elem' b (nb - 1)
  let x ← elem' a (na - 1)
  let r ← lt' y x
  match r with
  | some w =>
    if w = true then do
      let x ← elem' a (na - 1)
      if (na - 1 == 0) = true then pure (.done (some (a.extract 0 (na - 1) ++ b.extract 0 nb ++ (out.push x).reverse), na - 1, nb, out.push x, ac + 1, 0))
      else if ac + 1 ≥ g then pure (.done (none, na - 1, nb, out.push x, ac + 1, 0)) else pure (.yield (none, na - 1, nb, out.push x, ac + 1, 0))
    else do
      let y ← elem' b (nb - 1)
      if (nb - 1 == 1) = true then pure (.done (some (b.extract 0 (nb - 1) ++ a.extract 0 na ++ (out.push y).reverse), na, nb - 1, out.push y, 0, bc + 1))
      else if bc + 1 ≥ g then pure (.done (none, na, nb - 1, out.push y, 0, bc + 1)) else pure (.yield (none, na, nb - 1, out.push y, 0, bc + 1))
  | _ => pure (.done (some (a.extract 0 na ++ b.extract 0 nb ++ out.reverse), na, nb, out, ac, bc))
noncomputable def hiI (a b : Array Keyed) (g : Nat) (c : HI) : StateT SortSt Sem (ForInStep HI) := hiI' a b g c.2.1 c.2.2.1 c.2.2.2.1 c.2.2.2.2.1 c.2.2.2.2.2
noncomputable def hiG' (a b : Array Keyed) (na nb : Nat) (out : Array Keyed) (g ac bc : Nat) : StateT SortSt Sem (ForInStep HS) := if g > 1 then hiA a b out na nb (g - 1) ac bc else hiA a b out na nb g ac bc
noncomputable def hiG (a b : Array Keyed) (c : HS) : StateT SortSt Sem (ForInStep HS) := hiG' a b c.2.1 c.2.2.1 c.2.2.2.1 c.2.2.2.2.1 c.2.2.2.2.2.1 c.2.2.2.2.2.2
noncomputable def hiS2 (c : HS) : StateT SortSt Sem (ForInStep HO) := match c.1 with
  | some r => pure (.done (some r, c.2.1, c.2.2.1, c.2.2.2.1, c.2.2.2.2.1))
  | none => do
    modify fun s => setG s (c.2.2.2.2.1 + 1)
    pure (.yield (none, c.2.1, c.2.2.1, c.2.2.2.1, c.2.2.2.2.1 + 1))
noncomputable def hiS1 (a b : Array Keyed) (g : Nat) (c : HI) : StateT SortSt Sem (ForInStep HO) := match c.1 with
  | some r => pure (.done (some r, c.2.1, c.2.2.1, c.2.2.2.1, g))
  | none => do
    rule "list.sort.gallop"
    let c2 ← forIn [0:a.size + b.size] ((none, c.2.1, c.2.2.1, c.2.2.2.1, g + 1, c.2.2.2.2.1, c.2.2.2.2.2) : HS) fun _ c => hiG a b c
    hiS2 c2
noncomputable def hiT (a b : Array Keyed) (c : HO) : StateT SortSt Sem (ForInStep HO) := do
  let c1 ← forIn [0:a.size + b.size] ((none, c.2.1, c.2.2.1, c.2.2.2.1, 0, 0) : HI) fun _ d => hiI a b c.2.2.2.2 d
  hiS1 a b c.2.2.2.2 c1
noncomputable def hiEnd (c : HO) : StateT SortSt Sem (Array Keyed) := match c.1 with
  | some r => pure r
  | none => unsupported "internal:list.sort.merge-bound"
theorem mergeHi_eq1 (a b : Array Keyed) : mergeHi' a b = (do
  rule "list.sort.merge-hi"
  let x ← elem' a (a.size - 1)
  if (a.size - 1 == 0) = true then pure (a.extract 0 (a.size - 1) ++ b.extract 0 b.size ++ #[x].reverse)
  else if (b.size == 1) = true then pure (b.extract 0 b.size ++ a.extract 0 (a.size - 1) ++ #[x].reverse)
  else do
    let st ← get
    let c ← forIn [0:a.size + b.size] ((none, a.size - 1, b.size, #[x], gallopOf st) : HO) fun _ c => hiT a b c
    hiEnd c) := by
  rw [mergeHi_eq]
  refine bind_congr fun _ => bind_congr fun y => ?_
  refine ite_congr rfl (fun _ => rfl) fun _ => ite_congr rfl (fun _ => rfl) fun _ => bind_congr fun st => ?_
  refine fb_congr (fun _ c => ?_) (fun c => ?_)
  · refine fb_congr (fun _ c => rfl) (fun c1 => ?_)
    show _ = hiS1 a b c.2.2.2.2 c1
    unfold hiS1
    obtain ⟨r, c1⟩ := c1
    cases r with
    | some r => rfl
    | none =>
      refine bind_congr fun _ => fb_congr (fun _ c => rfl) (fun c2 => ?_)
      obtain ⟨r, c2⟩ := c2
      cases r <;> rfl
  · obtain ⟨r, c⟩ := c
    cases r <;> rfl
inductive HiN {β : Type} (kf : Keyed → Nat) (a b : Array Keyed) (st : SortSt) (p : Nat) : (Option (Array Keyed) × Nat × Nat × Array Keyed × β) → SortSt → Prop
  | on {out : Array Keyed} {na nb : Nat} {z : β} {g : Nat} (H : HInv kf a b out na nb) (ha : 1 ≤ na) (hb : 2 ≤ nb) (hp : p + na + nb ≤ a.size + b.size) : HiN kf a b st p (none, na, nb, out, z) (setG st g)
inductive HiF {β : Type} (kf : Keyed → Nat) (a b : Array Keyed) (st : SortSt) : (Option (Array Keyed) × Nat × Nat × Array Keyed × β) → SortSt → Prop
  | fin {x out : Array Keyed} {na nb : Nat} {z : β} {g : Nat} (h : MFin kf a b x) : HiF kf a b st (some x, na, nb, out, z) (setG st g)
noncomputable def HiD {β : Type} (kf : Keyed → Nat) (a b : Array Keyed) (st : SortSt) (p : Nat) (c : Option (Array Keyed) × Nat × Nat × Array Keyed × β) (st2 : SortSt) : Prop := HiF kf a b st c st2 ∨ HiN kf a b st p c st2
noncomputable def HiStep {β : Type} (kf : Keyed → Nat) (a b : Array Keyed) (st : SortSt) (p q : Nat) (r : ForInStep (Option (Array Keyed) × Nat × Nat × Array Keyed × β)) (st2 : SortSt) : Prop := match r with
  | .yield c => HiN kf a b st q c st2
  | .done c => HiD kf a b st p c st2
noncomputable def HiOut {β : Type} (kf : Keyed → Nat) (a b : Array Keyed) (st : SortSt) (q : Nat) (r : ForInStep (Option (Array Keyed) × Nat × Nat × Array Keyed × β)) (st2 : SortSt) : Prop := match r with
  | .yield c => HiN kf a b st q c st2
  | .done c => HiF kf a b st c st2
theorem hiC_c {M : Model} {a b out : Array Keyed} {na nb g ac bc p q g2 : Nat} (sb : SrtL kf b.toList) {x : Keyed} (hx : a[na]? = some x) (HD : HInv kf a b (out.push x) na nb) (hb : 2 ≤ nb) (hp : p + na + nb ≤ a.size + b.size) (hq : q + na + nb ≤ a.size + b.size) :
    wpS M A E s (hiC a b out na nb g ac bc) (HiStep kf a b st p q) (setG st g2) := by
  refine wpS_bind (elem_c hx ?_)
  split
  · next e => exact wpS_pure (.inl (.fin (HD.doneA sb (by simpa only [beq_iff_eq] using e))))
  next e =>
  have e3 : na ≠ 0 := by simpa only [beq_iff_eq] using e
  split
  · exact wpS_pure (.inr (.on HD (by exact ar244 e3) hb hp))
  · exact wpS_pure (.on HD (by exact ar244 e3) hb hq)
theorem hiB_c (hc : CmpOk prog w A s κ kf arr0) (hk : kindOf st = κ) {a b out : Array Keyed} (oa : Of a arr0) (ob : Of b arr0) (sa : SrtL kf a.toList) (sb : SrtL kf b.toList) (h0 : KA kf b 0 < KA kf a 0)
    (hne : ∀ i j, i < a.size → j < b.size → KA kf a i ≠ KA kf b j) {na nb g ac bc p q g2 : Nat} (H : HInv kf a b out (na + 1) (nb + 1)) (hb : 1 ≤ nb) (hyx : ∀ y z, b[nb]? = some y → a[na]? = some z → kf z < kf y) (hp : p + na + nb ≤ a.size + b.size) (hq : q + na + nb ≤ a.size + b.size) :
    wpS (model prog w) A E s (hiB a b out (na + 1) nb g ac bc) (HiStep kf a b st p q) (setG st g2) := by
  have hla := H.la
  have hlb := H.lb
  obtain ⟨y, hy, my, ey⟩ := at_of (kf := kf) ob (i := nb) (by exact ar245 hlb)
  obtain ⟨x, hx, mx, ex⟩ := at_of (kf := kf) oa (i := na) (by exact ar245 hla)
  have HB := H.pushB sa sb hy (fun z _ hz => hyx y z hy hz)
  refine wpS_bind (elem_c hy ?_)
  split
  · next e => exact wpS_pure (.inl (.fin (HB.firstB sa sb (by simpa only [beq_iff_eq] using e) h0)))
  next e =>
  have hb' : nb ≠ 1 := by simpa only [beq_iff_eq] using e
  refine wpS_bind (elem_c hx ?_)
  refine wpS_bind (gall_c hc (by exact hk) ob mx (by exact ar22 hb) (by exact ar246 hlb) (fun p q r1 r2 r3 => seg_srt sb p q (by exact ar16) r2 (by exact ar247 hlb r3)) fun k2 hk2 u1 u2 => ?_)
  have HC := HB.takeB sb (k := k2) hk2 (fun z hz => fun w hw => Nat.lt_of_le_of_lt (take_lt sa hx w hw) (bey_above (by exact ar248 hlb) u2 (fun _ i hi => by rw [← ex]; exact (hne _ i (by exact ar245 hla) hi).symm) z hz))
  have nxt : ∀ z, 1 ≤ k2 → b[k2 - 1]? = some z → kf z < kf x := fun z hz hz2 => by
    have u := u1 (k2 - 1) (by exact ar22 hz)
    unfold bey at u
    rw [Nat.zero_add, KA_some hz2] at u
    simpa using u
  have HD := HC.pushA sa sb hx nxt
  dsimp only
  by_cases k2p : nb - k2 > 0
  · rw [if_pos k2p]
    split
    · next e => exact wpS_pure (.inl (.fin (HC.firstB sa sb (by simpa only [beq_iff_eq] using e) h0)))
    next e =>
    have q2 : k2 ≠ 1 := by simpa only [beq_iff_eq] using e
    split
    · next e => exact wpS_pure (.inl (.fin (HC.doneB sa (by simpa only [beq_iff_eq] using e))))
    next e =>
    have q4 : k2 ≠ 0 := by simpa only [beq_iff_eq] using e
    exact hiC_c sb hx HD (by exact ar249 q4 q2) (by exact ar250 hp hb hk2) (by exact ar250 hq hb hk2)
  · rw [if_neg k2p]
    have k20 : k2 = nb := by exact ar251 hk2 k2p
    subst k20
    rw [show (b.extract k2 k2).reverse = #[] by simp; exact ar252, Array.append_empty] at HD
    exact hiC_c sb hx HD (by exact ar253 hb hb') hp hq
theorem hiA_c (hc : CmpOk prog w A s κ kf arr0) (hk : kindOf st = κ) {a b out : Array Keyed} (oa : Of a arr0) (ob : Of b arr0) (sa : SrtL kf a.toList) (sb : SrtL kf b.toList) (h0 : KA kf b 0 < KA kf a 0)
    (hne : ∀ i j, i < a.size → j < b.size → KA kf a i ≠ KA kf b j) {na nb g ac bc p q g2 : Nat} (H : HInv kf a b out na (nb + 1)) (ha : 1 ≤ na) (hb : 1 ≤ nb) (hp : p + na + nb ≤ a.size + b.size) (hq : q + na + nb ≤ a.size + b.size) :
    wpS (model prog w) A E s (hiA a b out na (nb + 1) g ac bc) (HiStep kf a b st p q) (setG st g2) := by
  have hla := H.la
  have hlb := H.lb
  obtain ⟨y, hy, my, ey⟩ := at_of (kf := kf) ob (i := nb) (by exact ar245 hlb)
  refine wpS_bind (wpS_modify ?_)
  refine wpS_bind (elem_c hy ?_)
  refine wpS_bind (gall_c hc (by exact hk) oa my (by exact ar22 ha) (by exact ar254 hla) (fun p q r1 r2 r3 => seg_srt sa p q (by exact ar16) r2 (by exact ar255 r3 hla)) fun k hkk t1 t2 => ?_)
  have hyk : ∀ z, 1 ≤ k → a[k - 1]? = some z → kf z < kf y := fun z hz hz2 => by
    have u := t1 (k - 1) (by exact ar22 hz)
    have n' := hne (k - 1) nb (by exact ar256 ha hkk hla) (by exact ar245 hlb)
    unfold bey at u
    rw [Nat.zero_add, KA_some hz2] at u
    rw [KA_some hz2, ey] at n'
    simp only [Bool.false_eq_true, if_false, Bool.not_eq_true', decide_eq_false_iff_not] at u
    exact ar14 n' u
  have hyk' : ∀ m, k = m + 1 → ∀ y' z, b[nb]? = some y' → a[m]? = some z → kf z < kf y' := fun m e y' z h1 h2 => by
    rw [hy] at h1; cases h1
    exact hyk z (by exact ar257 e) (by rw [e]; exact h2)
  dsimp only
  by_cases kp : na - k > 0
  · rw [if_pos kp]
    have H := H.takeA sa (k := k) hkk (fun z hz => fun w hw => Nat.lt_of_le_of_lt (take_lt sb hy w hw) (bey_above (by exact ar31 hla) t2 (fun q => absurd q (by decide)) z hz))
    split
    · next e => exact wpS_pure (.inl (.fin (H.doneA sb (by simpa only [beq_iff_eq] using e))))
    next e =>
    have q1 : k ≠ 0 := by simpa only [beq_iff_eq] using e
    obtain ⟨m, rfl⟩ : ∃ m, k = m + 1 := ⟨k - 1, by exact ar258 q1 hkk⟩
    exact hiB_c hc hk oa ob sa sb h0 hne H hb (hyk' m rfl) (by exact ar259 hp hkk ha) (by exact ar259 hq hkk ha)
  · rw [if_neg kp]
    have k0 : k = na := by exact ar251 hkk kp
    obtain ⟨m, rfl⟩ : ∃ m, na = m + 1 := ⟨na - 1, by exact ar260 ha⟩
    exact hiB_c hc hk oa ob sa sb h0 hne H hb (hyk' m k0) (by exact ar261 hp) (by exact ar261 hq)
theorem hiI_c (hc : CmpOk prog w A s κ kf arr0) (hk : kindOf st = κ) {a b out : Array Keyed} (oa : Of a arr0) (ob : Of b arr0) (sa : SrtL kf a.toList) (sb : SrtL kf b.toList) (h0 : KA kf b 0 < KA kf a 0)
    (hne : ∀ i j, i < a.size → j < b.size → KA kf a i ≠ KA kf b j) {na nb g ac bc p q g2 : Nat} (H : HInv kf a b out (na + 1) (nb + 1)) (hb : 1 ≤ nb) (hp : p + na + nb + 1 ≤ a.size + b.size) (hq : q + na + nb + 1 ≤ a.size + b.size) :
    wpS (model prog w) A E s (hiI' a b g (na + 1) (nb + 1) out ac bc) (HiStep kf a b st p q) (setG st g2) := by
  have hla := H.la
  have hlb := H.lb
  obtain ⟨y, hy, my, ey⟩ := at_of (kf := kf) ob (i := nb) (by exact ar245 hlb)
  obtain ⟨x, hx, mx, ex⟩ := at_of (kf := kf) oa (i := na) (by exact ar245 hla)
  refine wpS_bind (elem_c hy (wpS_bind (elem_c hx (wpS_bind (lts_c hc (by exact hk) my mx ?_)))))
  dsimp only
  by_cases hlt : kf y < kf x
  · rw [decide_eq_true hlt, if_pos rfl]
    refine wpS_bind (elem_c hx ?_)
    have H' := H.pushA sa sb hx (fun z _ hz => by rw [Nat.add_sub_cancel, hy] at hz; cases hz; exact hlt)
    split
    · next e => exact wpS_pure (.inl (.fin (H'.doneA sb (by simpa only [beq_iff_eq, Nat.add_sub_cancel] using e))))
    · next e =>
      have q' : na ≠ 0 := by simpa only [beq_iff_eq, Nat.add_sub_cancel] using e
      split
      · exact wpS_pure (.inr (.on H' (by exact ar262 q') (by exact ar198 hb) (by exact ar263 hp)))
      · exact wpS_pure (.on H' (by exact ar262 q') (by exact ar198 hb) (by exact ar263 hq))
  · rw [decide_eq_false hlt, if_neg (by decide)]
    refine wpS_bind (elem_c hy ?_)
    have hn := hne na nb (by exact ar245 hla) (by exact ar245 hlb)
    have H' := H.pushB sa sb hy (fun z _ hz => by rw [Nat.add_sub_cancel, hx] at hz; cases hz; rw [ex, ey] at hn; exact ar14 hn hlt)
    split
    · next e => exact wpS_pure (.inl (.fin (H'.firstB sa sb (by simpa only [beq_iff_eq, Nat.add_sub_cancel] using e) h0)))
    · next e =>
      have q' : nb ≠ 1 := by simpa only [beq_iff_eq, Nat.add_sub_cancel] using e
      split
      · exact wpS_pure (.inr (.on H' (by exact ar264) (by exact ar265 hb q') (by exact ar266 hp)))
      · exact wpS_pure (.on H' (by exact ar264) (by exact ar265 hb q') (by exact ar266 hq))
theorem hiS1_c (hc : CmpOk prog w A s κ kf arr0) (hk : kindOf st = κ) {a b : Array Keyed} (oa : Of a arr0) (ob : Of b arr0) (sa : SrtL kf a.toList) (sb : SrtL kf b.toList) (h0 : KA kf b 0 < KA kf a 0)
    (hne : ∀ i j, i < a.size → j < b.size → KA kf a i ≠ KA kf b j) {g q : Nat} {c : HI} {st2 : SortSt} (h : HiD kf a b st q c st2) : wpS (model prog w) A E s (hiS1 a b g c) (HiOut kf a b st q) st2 := by
  rcases h with @⟨x, out, na, nb, z, g', hf⟩ | ⟨H, ha, hb, hp⟩
  · exact wpS_pure (HiF.fin hf)
  refine wpS_bind (wpS_lift (wpAny_rule ⟨rfl, ?_⟩))
  refine wpS_bind (wpS_mono (wpS_forRange (I := fun j c st2 => HiN kf a b st (q + j) c st2) (Q := fun c st2 => HiD kf a b st q c st2) ?_ ?_ (.on H ha hb hp)) ?_)
  · rintro j c st2 _ _ (@⟨out, na, nb, z, g', H, ha, hb, hp⟩)
    obtain ⟨nb, rfl⟩ : ∃ m, nb = m + 1 := ⟨nb - 1, by exact ar173 hb⟩
    have fin : ∀ {g z1 z2 : Nat}, wpS (model prog w) A E s (hiA a b out na (nb + 1) g z1 z2) (HiStep kf a b st q (q + (j + 1))) (setG st g') := hiA_c hc hk oa ob sa sb h0 hne H ha (by exact ar267 hb) (by exact ar268 hp) (by exact ar269 hp)
    show wpS _ _ _ _ (hiG' _ _ _ _ _ _ _ _) _ _
    unfold hiG'
    split
    · exact wpS_mono fin fun r st2 hr => by cases r <;> exact hr
    · exact wpS_mono fin fun r st2 hr => by cases r <;> exact hr
  · rintro c st2 ⟨H, ha, hb, hp⟩
    exfalso; omega
  · rintro c st2 (@⟨x, out, na, nb, z, g', hf⟩ | ⟨H, ha, hb, hp⟩)
    · exact wpS_pure (HiF.fin hf)
    · exact wpS_bind (wpS_modify (wpS_pure (HiN.on H ha hb hp)))
theorem mhi_c (hc : CmpOk prog w A s κ kf arr0) (hk : kindOf st = κ) {a b : Array Keyed} (oa : Of a arr0) (ob : Of b arr0) (sa : SrtL kf a.toList) (sb : SrtL kf b.toList) (ha1 : 1 ≤ a.size) (hb1 : 1 ≤ b.size) (h0 : KA kf b 0 < KA kf a 0) (hl : KA kf b (b.size - 1) < KA kf a (a.size - 1))
    (hne : ∀ i j, i < a.size → j < b.size → KA kf a i ≠ KA kf b j) {Q : Array Keyed → SortSt → Prop} (h : ∀ out g, MFin kf a b out → Q out (setG st g)) :
    wpS (model prog w) A E s (mergeHi' a b) Q st := by
  rw [mergeHi_eq1]
  refine wpS_bind (wpS_lift (wpAny_rule ⟨rfl, ?_⟩))
  obtain ⟨x0, hx0, mx0, ex0⟩ := at_of (kf := kf) oa (i := a.size - 1) (by exact ar22 ha1)
  refine wpS_bind (elem_c hx0 ?_)
  have H0 : HInv kf a b #[x0] (a.size - 1) b.size := by
    have := HInv.pushA (kf := kf) (a := a) (b := b) (out := #[]) (na := a.size - 1) (nb := b.size) ⟨by exact ar270 ha1, by exact ar18, by rw [List.drop_eq_nil_of_le (by simp; exact ar271 ha1), List.drop_eq_nil_of_le (by simp)]; simp, List.Pairwise.nil, by simp, by simp⟩ sa sb hx0 (fun y _ hy => by rw [← KA_some (kf := kf) hy, ← ex0]; exact hl)
    simpa using this
  have est : setG st (gallopOf st) = st := rfl
  split
  · next c1 =>
    have := h _ (gallopOf st) (H0.doneA sb (by simpa using c1))
    rw [est] at this
    exact wpS_pure this
  next c1 =>
  split
  · next c2 =>
    have := h _ (gallopOf st) (H0.firstB sa sb (by simpa using c2) h0)
    rw [est] at this
    exact wpS_pure this
  next c2 =>
  have c1' : a.size - 1 ≠ 0 := by simpa only [beq_iff_eq] using c1
  have c2' : b.size ≠ 1 := by simpa only [beq_iff_eq] using c2
  refine wpS_bind (wpS_get ?_)
  refine wpS_bind (wpS_mono (wpS_forRange (I := fun i c st2 => HiN kf a b st i c st2) (Q := fun c st2 => HiF kf a b st c st2) ?_ ?_ (.on (g := gallopOf st) H0 (by exact ar272 c1') (by exact ar253 hb1 c2') (by exact ar273 ha1))) ?_)
  · rintro i c st2 _ _ ⟨H, ha, hb, hp⟩
    refine wpS_bind (wpS_mono (wpS_forRange (I := fun j c st2 => HiN kf a b st (i + j) c st2) (Q := fun c st2 => HiD kf a b st (i + 1) c st2) ?_ ?_ (.on H ha hb (by omega))) ?_)
    · rintro j c st2 _ _ (@⟨out, na, nb, z, g2, H, ha, hb, hp⟩)
      obtain ⟨na, rfl⟩ : ∃ m, na = m + 1 := ⟨na - 1, by exact ar260 ha⟩
      obtain ⟨nb, rfl⟩ : ∃ m, nb = m + 1 := ⟨nb - 1, by exact ar173 hb⟩
      exact wpS_mono (hiI_c hc hk oa ob sa sb h0 hne (p := i + 1) (q := i + (j + 1)) H (by exact ar267 hb) (by exact ar274 hp) (by exact ar275 hp)) fun r st2 hr => by cases r <;> exact hr
    · rintro c st2 ⟨H, ha, hb, hp⟩
      exfalso; exact ar276 hp ha
    · intro c st2 hd
      exact wpS_mono (hiS1_c hc hk oa ob sa sb h0 hne hd) fun r st2 hr => by cases r <;> exact hr
  · rintro c st2 ⟨H, ha, hb, hp⟩
    exfalso; exact ar277 hp ha
  · rintro c st2 (@⟨x, out, na, nb, z, g', hf⟩)
    exact wpS_pure (h _ _ hf)
end
end
section
-- S10
open PySem.Spec
theorem put_go : ∀ (l : List Keyed) (sa k : Nat) (arr : Array Keyed), sa + k + l.length ≤ arr.size → ((l.zipIdx k).foldl (fun a (p : Keyed × Nat) => a.setIfInBounds (sa + p.2) p.1) arr).toList = arr.toList.take (sa + k) ++ l ++ arr.toList.drop (sa + k + l.length)
  | [], sa, k, arr, h => by simp
  | x :: l, sa, k, arr, h => by
    rw [List.zipIdx_cons, List.foldl_cons, put_go l sa (k + 1) _ (by rw [Array.size_setIfInBounds]; simp at h; exact ar1 h)]
    simp only [List.length_cons] at h ⊢
    have hz : sa + k < arr.toList.length := by simp; exact ar2 h
    rw [Array.toList_setIfInBounds]
    have e1 : (arr.toList.set (sa + k) x).take (sa + (k + 1)) = arr.toList.take (sa + k) ++ [x] := by
      rw [show sa + (k + 1) = sa + k + 1 by exact ar3, List.take_add_one, List.take_set_of_le (Nat.le_refl _)]
      rw [List.getElem?_set_self hz]
      rfl
    have e2 : (arr.toList.set (sa + k) x).drop (sa + (k + 1) + l.length) = arr.toList.drop (sa + k + (l.length + 1)) := by
      rw [List.drop_set_of_lt (by exact ar4)]
      congr 1; exact ar5
    rw [e1, e2]
    simp
theorem Array_split (arr : Array Keyed) (i j k : Nat) (h1 : i ≤ j) (h2 : j ≤ k) (h3 : k ≤ arr.size) : arr.toList = arr.toList.take i ++ ((arr.extract i j).toList ++ (arr.extract j k).toList) ++ arr.toList.drop k := by
  obtain ⟨d, rfl⟩ : ∃ d, j = i + d := ⟨j - i, by exact ar6 h1⟩
  obtain ⟨e, rfl⟩ : ∃ e, k = i + d + e := ⟨k - (i + d), by exact ar7 h2⟩
  rw [ext_toList, ext_toList]
  have a1 := (List.take_append_drop i arr.toList).symm
  have a2 := (List.take_append_drop d (arr.toList.drop i)).symm
  have a3 := (List.take_append_drop e ((arr.toList.drop i).drop d)).symm
  rw [List.drop_drop] at a2 a3
  rw [List.drop_drop] at a3
  conv => lhs; rw [a1, a2, a3]
  simp
section
variable {prog : Program} {w : World} {A : Around} {E : Value → Shared → Prop} {s : Shared} {κ : SortKind} {kf : Keyed → Nat} {arr0 arr : Array Keyed}
theorem wpS_set_g {M : Model} {st st' : SortSt} {Q : PUnit → SortSt → Prop} (h : Q ⟨⟩ st') : wpS M A E s (set st' : StateT SortSt Sem PUnit) Q st := by
  unfold wpS
  rw [StateT.run_set]
  exact wpAny_pure ⟨rfl, h⟩
theorem of_ext (hp : arr.Perm arr0) (i j : Nat) : Of (arr.extract i j) arr0 := fun x hx => by
  refine (Array.perm_iff_toList_perm.mp hp).mem_iff.mp ?_
  rw [Array.toList_extract, List.extract_eq_take_drop] at hx
  exact List.mem_of_mem_drop (List.mem_of_mem_take hx)
theorem KA_ext (i j n : Nat) (h : i + n < j) (hz : j ≤ arr.size) : KA kf (arr.extract i j) n = KA kf arr (i + n) := by
  refine KA_congr ?_
  rw [Array.getElem?_extract, if_pos (by exact ar8 h hz)]
/-- a merge of two sorted runs that fill the array -/
theorem merge_g (hc : CmpOk prog w A s κ kf arr0) (hnd : (arr0.toList.map kf).Nodup) (hp : arr.Perm arr0) {n1 n2 pw q : Nat} (h1 : 1 ≤ n1) (h2 : 1 ≤ n2) (hz : n1 + n2 = arr.size) (s1 : SegS kf arr 0 n1) (s2 : SegS kf arr n1 (n1 + n2)) {Q : Bool → SortSt → Prop}
    (h : ∀ arr' g, arr'.Perm arr0 → SegS kf arr' 0 arr'.size → Q true (setG (MK κ #[(0, n1 + n2, pw)] arr') g)) :
    wpS (model prog w) A E s (mergeAt' 0) Q (MK κ #[(0, n1, pw), (n1, n2, q)] arr) := by
  obtain ⟨x, hx, mx, ex⟩ := at_perm (kf := kf) hp (i := n1) (by exact ar9 hz h2)
  rw [mergeAt'_eq]
  refine wpS_bind (wpS_get ?_)
  have e0 : (pendingOf (MK κ #[(0, n1, pw), (n1, n2, q)] arr))[0]? = some (0, n1, pw) := rfl
  have e1 : (pendingOf (MK κ #[(0, n1, pw), (n1, n2, q)] arr))[0 + 1]? = some (n1, n2, q) := rfl
  rw [e0, e1]
  dsimp only
  have e2 : setPending (MK κ #[(0, n1, pw), (n1, n2, q)] arr) (((pendingOf (MK κ #[(0, n1, pw), (n1, n2, q)] arr)).setIfInBounds 0 (0, n1 + n2, pw)).eraseIdxIfInBounds (0 + 1)) = MK κ #[(0, n1 + n2, pw)] arr := by
    have e : ((#[((0 : Nat), n1, pw), (n1, n2, q)] : Array (Nat × Nat × Nat)).setIfInBounds 0 (0, n1 + n2, pw)).eraseIdxIfInBounds (0 + 1) = #[(0, n1 + n2, pw)] := by
      apply Array.toList_inj.mp
      simp [Array.eraseIdxIfInBounds]
    show SortSt.mk' κ arr (((#[((0 : Nat), n1, pw), (n1, n2, q)] : Array (Nat × Nat × Nat)).setIfInBounds 0 (0, n1 + n2, pw)).eraseIdxIfInBounds (0 + 1)) 7 none = _
    rw [e]
  rw [e2]
  refine wpS_bind (wpS_set_g ?_)
  refine wpS_bind (elem_c (x := x) hx ?_)
  have ofa : Of arr arr0 := fun y hy => (Array.perm_iff_toList_perm.mp hp).mem_iff.mp hy
  refine wpS_bind (gall_c hc rfl ofa mx (by exact ar10 h1) (by exact ar11 hz) (by rw [Nat.zero_add]; exact s1) fun k hk t1 t2 => ?_)
  dsimp only
  have lowk : ∀ i, i < k → KA kf arr i < KA kf arr n1 := fun i hi => by
    have u := t1 i hi
    unfold bey at u
    have n' := KA_ne (kf := kf) hnd hp (i := i) (j := n1) (by exact ar12 hz hi hk) (by exact ar9 hz h2) (by exact ar13 hi hk)
    rw [Nat.zero_add, ← ex] at u
    simp only [Bool.false_eq_true, if_false, Bool.not_eq_true', decide_eq_false_iff_not] at u
    exact ar14 n' u
  have highk : ∀ i, k ≤ i → i < n1 → KA kf arr n1 < KA kf arr i := fun i hi hi2 => by
    have u := t2 i hi hi2
    unfold bey at u
    rw [Nat.zero_add, ← ex] at u
    simpa using u
  by_cases c1 : (n1 - k == 0) = true
  · rw [if_pos c1]
    have c1' : k = n1 := by have : n1 - k = 0 := by simpa only [beq_iff_eq] using c1
                            exact ar15 this hk
    refine wpS_pure (h arr 7 hp ?_)
    intro i j _ hij hj
    rcases Nat.lt_or_ge j n1 with r | r
    · exact s1 i j (by exact ar16) hij r
    · rcases Nat.lt_or_ge i n1 with r2 | r2
      · rcases Nat.eq_or_lt_of_le r with r3 | r3
        · rw [← r3]; exact lowk i (by exact ar17 r2 c1')
        · exact Nat.lt_trans (lowk i (by exact ar17 r2 c1')) (s2 n1 j (by exact ar18) r3 (by exact ar19 hz hj))
      · exact s2 i j r2 hij (by exact ar19 hz hj)
  rw [if_neg c1]
  have c1' : k < n1 := by
    have : n1 - k ≠ 0 := by simpa only [beq_iff_eq] using c1
    exact ar20 this
  obtain ⟨z, hz', mz, ez⟩ := at_perm (kf := kf) hp (i := 0 + k + (n1 - k) - 1) (by exact ar21 hz h1 hk)
  refine wpS_bind (elem_c hz' ?_)
  refine wpS_bind (gall_c hc rfl ofa mz (by exact ar22 h2) (by exact ar23 hz) s2 fun k2 hk2 u1 u2 => ?_)
  dsimp only
  have e4 : 0 + k + (n1 - k) - 1 = n1 - 1 := by exact ar24 h1 hk
  rw [e4] at ez hz'
  have lowk2 : ∀ i, i < k2 → KA kf arr (n1 + i) < KA kf arr (n1 - 1) := fun i hi => by
    have u := u1 i hi
    unfold bey at u
    rw [← ez] at u
    simpa using u
  have highk2 : ∀ i, k2 ≤ i → i < n2 → KA kf arr (n1 - 1) < KA kf arr (n1 + i) := fun i hi hi2 => by
    have u := u2 i hi hi2
    unfold bey at u
    have n' := KA_ne (kf := kf) hnd hp (i := n1 - 1) (j := n1 + i) (by exact ar25 hz h1) (by exact ar26 hz hi2) (by exact ar27 h1)
    rw [← ez] at u
    simp only [if_true, decide_eq_false_iff_not] at u
    exact ar14 n' u
  have k2p : k2 ≠ 0 := fun e => by
    have a1 := highk (n1 - 1) (by exact ar28 h1 c1') (by exact ar22 h1)
    have a2 := highk2 0 (by exact ar29 e) (by exact ar10 h2)
    rw [Nat.add_zero] at a2
    exact ar30 a2 a1
  by_cases c2 : (k2 == 0) = true
  · exact absurd (by simpa only [beq_iff_eq] using c2) k2p
  rw [if_neg c2]
  have hsp := Array_split arr k n1 (n1 + k2) (by exact ar31 hk) (by exact ar32) (by exact ar33 hz hk2)
  have srtP : SrtL kf (arr.toList.take k) := by
    have := srt_seg (arr := arr) (i := 0) (j := k) (fun i j a b c => s1 i j a b (by exact ar34 c hk)) (by exact ar35 hz hk)
    rwa [ext_first] at this
  have sX : SrtL kf (arr.extract k n1).toList := srt_seg (fun i j a b c => s1 i j (by exact ar16) b c) (by exact ar36 hz)
  have sY : SrtL kf (arr.extract n1 (n1 + k2)).toList := srt_seg (fun i j a b c => s2 i j a b (by exact ar37 c hk2)) (by exact ar33 hz hk2)
  have sS : SrtL kf (arr.toList.drop (n1 + k2)) := by
    have := srt_seg (arr := arr) (i := n1 + k2) (j := arr.size) (fun i j a b c => s2 i j (by exact ar38 a hk2) b (by exact ar19 hz c)) (by exact ar18)
    rwa [ext_last] at this
  have memP : ∀ u ∈ arr.toList.take k, kf u < kf x := fun u hu => by
    obtain ⟨i, hi, rfl⟩ := List.getElem_of_mem hu
    rw [List.length_take] at hi
    have := lowk i (by exact ar39 hi)
    rw [ex, KA_some (Array.getElem?_eq_getElem (show i < arr.size by exact ar40 hz hi hk))] at this
    simpa using this
  have memX : ∀ u ∈ (arr.extract k n1).toList, kf x < kf u ∧ kf u ≤ kf z ∧ ∀ p ∈ arr.toList.take k, kf p < kf u := fun u hu => by
    obtain ⟨i, hi, rfl⟩ := List.getElem_of_mem hu
    have hi' : i < (arr.extract k n1).size := by rw [← Array.length_toList]; exact hi
    rw [Array.size_extract] at hi'
    have e := KA_some (kf := kf) (Array.getElem?_eq_getElem (xs := arr) (show k + i < arr.size by exact ar41 h1 hi' hk2))
    have e' : (arr.extract k n1).toList[i] = arr[k + i]'(by exact ar41 h1 hi' hk2) := by simp
    rw [e', ← e, ← ex, ← ez]
    refine ⟨highk _ (by exact ar32) (by exact ar42 hi'), ?_, fun p hp' => ?_⟩
    · rcases Nat.lt_or_ge (k + i) (n1 - 1) with r | r
      · exact Nat.le_of_lt (s1 _ _ (by exact ar43) r (by exact ar22 h1))
      · rw [show k + i = n1 - 1 by exact ar44 e4 r h1 hi']; exact Nat.le_refl _
    · have := memP p hp'
      have := highk (k + i) (by exact ar32) (by exact ar42 hi')
      omega
  have memY : ∀ u ∈ (arr.extract n1 (n1 + k2)).toList, kf x ≤ kf u ∧ kf u < kf z := fun u hu => by
    obtain ⟨i, hi, rfl⟩ := List.getElem_of_mem hu
    have hi' : i < (arr.extract n1 (n1 + k2)).size := by rw [← Array.length_toList]; exact hi
    rw [Array.size_extract] at hi'
    have e := KA_some (kf := kf) (Array.getElem?_eq_getElem (xs := arr) (show n1 + i < arr.size by exact ar45 hi' hk2))
    have e' : (arr.extract n1 (n1 + k2)).toList[i] = arr[n1 + i]'(by exact ar45 hi' hk2) := by simp
    rw [e', ← e, ← ex, ← ez]
    refine ⟨?_, lowk2 i (by exact ar46 hi' hk2)⟩
    rcases Nat.eq_zero_or_pos i with r | r
    · rw [r]; exact Nat.le_refl _
    · exact Nat.le_of_lt (s2 _ _ (by exact ar18) (by exact ar47 r) (by exact ar48 hz hi' hk2))
  have memS : ∀ u ∈ arr.toList.drop (n1 + k2), kf z < kf u := fun u hu => by
    obtain ⟨i, hi, rfl⟩ := List.getElem_of_mem hu
    rw [List.length_drop, Array.length_toList] at hi
    have := highk2 (k2 + i) (by exact ar32) (by exact ar49 hz hi)
    rw [ez, KA_some (Array.getElem?_eq_getElem (show n1 + (k2 + i) < arr.size by exact ar50 hi))] at this
    simpa [Nat.add_assoc] using this
  have fin : ∀ merged g, MFin kf (arr.extract k n1) (arr.extract n1 (n1 + k2)) merged → wpS (model prog w) A E s (do
      modify fun s => setArr s (List.foldl (fun a x => a.setIfInBounds (0 + k + x.snd) x.fst) (arrOf s) merged.toList.zipIdx)
      let __do_lift ← get
      pure (failedOf __do_lift).isNone) Q (setG (MK κ #[(0, n1 + n2, pw)] arr) g) := by
    rintro merged g ⟨pm, sm⟩
    refine wpS_bind (wpS_modify (wpS_bind (wpS_get (wpS_pure ?_))))
    have hlen : merged.toList.length = n1 - k + k2 := by
      rw [pm.length_eq, List.length_append, Array.length_toList, Array.length_toList, Array.size_extract, Array.size_extract]
      exact ar51 hz hk2 hk
    have el := put_go merged.toList k 0 arr (by rw [hlen]; exact ar52 hz hk2 hk)
    rw [hlen, Nat.add_zero, show k + (n1 - k + k2) = n1 + k2 by exact ar53 hk2 hk] at el
    have main := h (List.foldl (fun a (x : Keyed × Nat) => a.setIfInBounds (k + x.snd) x.fst) arr merged.toList.zipIdx) g ?_ (seg_srt ?_)
    · rw [Nat.zero_add]
      exact main
    · refine (Array.perm_iff_toList_perm.mpr ?_).trans hp
      rw [el]
      conv => rhs; rw [hsp]
      exact (pm.append_left _).append_right _
    · rw [el]
      have mem : ∀ u ∈ merged.toList, u ∈ (arr.extract k n1).toList ∨ u ∈ (arr.extract n1 (n1 + k2)).toList := fun u hu => List.mem_append.mp (pm.mem_iff.mp hu)
      refine List.pairwise_append.mpr ⟨List.pairwise_append.mpr ⟨srtP, sm, fun p hp' u hu => ?_⟩, sS, fun u hu v hv => ?_⟩
      · rcases mem u hu with r | r
        · exact (memX u r).2.2 p hp'
        · exact Nat.lt_of_lt_of_le (memP p hp') (memY u r).1
      · have hv' := memS v hv
        rcases List.mem_append.mp hu with r | r
        · have a1 := memP u r
          have a2 := highk (n1 - 1) (by exact ar28 h1 c1') (by exact ar22 h1)
          rw [ex, ez] at a2
          show kf u < kf v
          exact ar54 a2 hv' a1
        · rcases mem u r with r | r
          · exact Nat.lt_of_le_of_lt (memX u r).2.1 hv'
          · exact Nat.lt_trans (memY u r).2 hv'
  have szX : (arr.extract k n1).size = n1 - k := by rw [Array.size_extract]; exact ar55 hz hk
  have szY : (arr.extract n1 (n1 + k2)).size = k2 := by rw [Array.size_extract]; exact ar56 hz hk2
  have KX : ∀ i, i < n1 - k → KA kf (arr.extract k n1) i = KA kf arr (k + i) := fun i hi => KA_ext k n1 i (by exact ar57 hi) (by exact ar36 hz)
  have KY : ∀ i, i < k2 → KA kf (arr.extract n1 (n1 + k2)) i = KA kf arr (n1 + i) := fun i hi => KA_ext n1 (n1 + k2) i (by exact ar58 hi) (by exact ar33 hz hk2)
  have hh0 : KA kf (arr.extract n1 (n1 + k2)) 0 < KA kf (arr.extract k n1) 0 := by
    rw [KX 0 (by exact ar59 c1'), KY 0 (by exact ar60 k2p)]; exact highk k (by exact ar18) (by exact ar61 c1')
  have hhl : KA kf (arr.extract n1 (n1 + k2)) ((arr.extract n1 (n1 + k2)).size - 1) < KA kf (arr.extract k n1) ((arr.extract k n1).size - 1) := by
    rw [szX, szY, KX _ (by exact ar62 c1'), KY _ (by exact ar63 k2p), show k + (n1 - k - 1) = n1 - 1 by exact ar64 e4 h1 c1']; exact lowk2 _ (by exact ar63 k2p)
  have hhn : ∀ i j, i < (arr.extract k n1).size → j < (arr.extract n1 (n1 + k2)).size → KA kf (arr.extract k n1) i ≠ KA kf (arr.extract n1 (n1 + k2)) j := fun i j hi hj => by
    rw [szX] at hi
    rw [szY] at hj
    rw [KX i hi, KY j hj]
    exact KA_ne (kf := kf) hnd hp (by exact ar65 hz hi) (by exact ar66 hz hj hk2) (by exact ar67 h1 hi)
  have ea : arrOf (MK κ #[(0, n1, pw), (n1, n2, q)] arr) = arr := rfl
  rw [ea, Nat.zero_add]
  rw [Nat.zero_add] at fin
  by_cases c3 : n1 - k ≤ k2
  · rw [if_pos c3]
    exact wpS_bind (mlo_c hc rfl (of_ext hp _ _) (of_ext hp _ _) sX sY (by exact ar68 c1' szX) (by exact ar69 szY k2p) hh0 hhl hhn fun out g hf => fin out g hf)
  · rw [if_neg c3]
    exact wpS_bind (mhi_c hc rfl (of_ext hp _ _) (of_ext hp _ _) sX sY (by exact ar70 szX c3) (by exact ar69 szY k2p) hh0 hhl hhn fun out g hf => fin out g hf)
end
end
section
-- S11
open PySem.Spec
section
variable {prog : Program} {w : World} {A : Around} {E : Value → Shared → Prop} {s : Shared} {κ : SortKind} {kf : Keyed → Nat} {arr0 arr arr' : Array Keyed} {pend : Array (Nat × Nat × Nat)}
theorem runs_g64 (hc : CmpOk prog w A s κ kf arr0) (hnd : (arr0.toList.map kf).Nodup) (hp : arr.Perm arr0) (h64 : arr0.size = 64) {Q : Unit → SortSt → Prop}
    (h : ∀ arr' pend' g, arr'.Perm arr0 → SegS kf arr' 0 arr0.size → Q () (setG (MK κ pend' arr') g)) : wpS (model prog w) A E s sortRuns' Q (MK κ #[] arr) := by
  have hsz : arr.size = 64 := hp.size_eq.trans h64
  have hmr : minRun' 64 64 0 = 32 := by decide +kernel
  rw [sortRuns'_eq]
  refine wpS_bind (wpS_get ?_)
  dsimp only
  have e1 : (arrOf (MK κ #[] arr)).size = 64 := hsz
  rw [e1, hmr]
  refine wpS_bind (wpS_mono (wpS_forRange (I := fun i c st => (i = 0 ∧ c = ((none, 0) : Option PUnit × Nat) ∧ st = MK κ #[] arr)
      ∨ (1 ≤ i ∧ ∃ n1 arr', 32 ≤ n1 ∧ n1 ≤ 64 ∧ (i = 1 ∨ n1 = 64) ∧ c = ((none, n1) : Option PUnit × Nat) ∧ st = MK κ #[(0, n1, 0)] arr' ∧ arr'.Perm arr0 ∧ SegS kf arr' 0 n1)
      ∨ (2 ≤ i ∧ c = ((none, 64) : Option PUnit × Nat) ∧ ∃ n1 n2 pw arr', 1 ≤ n1 ∧ 1 ≤ n2 ∧ n1 + n2 = 64 ∧ st = MK κ #[(0, n1, pw), (n1, n2, 0)] arr' ∧ arr'.Perm arr0 ∧ SegS kf arr' 0 n1 ∧ SegS kf arr' n1 (n1 + n2)))
    (Q := fun c st => c = ((none, 64) : Option PUnit × Nat) ∧ ∃ arr', arr'.Perm arr0 ∧ ((st = MK κ #[(0, 64, 0)] arr' ∧ SegS kf arr' 0 64) ∨ ∃ n1 n2 pw, 1 ≤ n1 ∧ 1 ≤ n2 ∧ n1 + n2 = 64 ∧ st = MK κ #[(0, n1, pw), (n1, n2, 0)] arr' ∧ SegS kf arr' 0 n1 ∧ SegS kf arr' n1 (n1 + n2))) ?_ ?_ (.inl ⟨rfl, rfl, rfl⟩)) ?_)
  · rintro i c st hi1 hi2 (⟨rfl, rfl, rfl⟩ | ⟨h1, n1, arr', hn1, hn2, hi64, rfl, rfl, hp', hs'⟩ | ⟨h1, rfl, n1, n2, pw, arr', hn1, hn2, hn, rfl, hp', hs1, hs2⟩)
    · dsimp only
      rw [if_neg (by exact ar183)]
      refine wpS_bind (wpS_mono (count_c (pend := #[]) hc hnd hp (lo := 0) (nrem := 64 - 0) (by exact ar184) (by exact ar185 hsz)) ?_)
      rintro r st ⟨m, arr1, rfl, hm1, hm2, rfl, hp1, hs1, _, _, _⟩
      rw [Nat.zero_add] at hs1
      dsimp only
      by_cases hlt : m < 32
      · rw [if_pos hlt]
        refine wpS_bind (wpS_lift (wpAny_rule ⟨rfl, ?_⟩))
        have emin : min (64 - 0) 32 = 32 := by decide
        rw [emin]
        have := hp1.size_eq
        refine wpS_bind (wpS_mono (bin_c (pend := #[]) hc hnd hp1 (lo := 0) (n := 32) (ok := m) hm1 (by exact ar186 hlt) (by exact ar187 h64 this) (by rw [Nat.zero_add]; exact hs1)) ?_)
        rintro r st ⟨arr2, rfl, rfl, hp2, hs2, _, _⟩
        rw [Nat.zero_add] at hs2
        rw [if_neg (by decide)]
        refine wpS_bind (wpS_get ?_)
        rw [show (pendingOf (MK κ #[] arr2)).back? = none from rfl]
        dsimp only
        refine wpS_bind (wpS_modify (wpS_pure ?_))
        exact .inr (.inl ⟨by exact ar180, 32, arr2, by exact ar188, by exact ar189, .inl rfl, rfl, rfl, hp2, hs2⟩)
      · rw [if_neg hlt]
        refine wpS_bind (wpS_get ?_)
        rw [show (pendingOf (MK κ #[] arr1)).back? = none from rfl]
        dsimp only
        refine wpS_bind (wpS_modify (wpS_pure ?_))
        exact .inr (.inl ⟨by exact ar180, m, arr1, by exact ar190 hlt, by exact ar191 hm2, .inl rfl, by rw [Nat.zero_add], rfl, hp1, hs1⟩)
    · have hsz' : arr'.size = 64 := hp'.size_eq.trans h64
      dsimp only
      by_cases hge : n1 ≥ 64
      · rw [if_pos hge]
        have e : n1 = 64 := by exact ar192 hn2 hge
        subst e
        exact wpS_pure ⟨rfl, arr', hp', .inl ⟨rfl, hs'⟩⟩
      rw [if_neg hge]
      refine wpS_bind (wpS_mono (count_c (pend := #[(0, n1, 0)]) hc hnd hp' (lo := n1) (nrem := 64 - n1) (by exact ar193 hge) (by exact ar194 hsz' hn2)) ?_)
      rintro r st ⟨m, arr1, rfl, hm1, hm2, rfl, hp1, hs1, hlow1, _, _⟩
      have hsz1 : arr1.size = 64 := hp1.size_eq.trans h64
      dsimp only
      have low : ∀ arr2 : Array Keyed, (∀ i, i < n1 → arr2[i]? = arr'[i]?) → SegS kf arr2 0 n1 := fun arr2 hl a b q1 q2 q3 => by
        rw [KA_congr (hl a (by exact ar89 q3 q2)), KA_congr (hl b q3)]
        exact hs' a b q1 q2 q3
      by_cases hlt : m < 32
      · rw [if_pos hlt]
        refine wpS_bind (wpS_lift (wpAny_rule ⟨rfl, ?_⟩))
        have emin : min (64 - n1) 32 = 64 - n1 := by exact ar195 hn1 hm2
        rw [emin]
        refine wpS_bind (wpS_mono (bin_c (pend := #[(0, n1, 0)]) hc hnd hp1 (lo := n1) (n := 64 - n1) (ok := m) hm1 (by exact ar196 hm2) (by exact ar194 hsz1 hn2) hs1) ?_)
        rintro r st ⟨arr2, rfl, rfl, hp2, hs2, hlow2, _⟩
        have hs3 := low arr2 fun i hi => (hlow2 i hi).trans (hlow1 i hi)
        rw [if_neg (by decide)]
        refine wpS_bind (wpS_get ?_)
        rw [show (pendingOf (MK κ #[(0, n1, 0)] arr2)).back? = some (0, n1, 0) from rfl]
        dsimp only
        refine wpS_bind (wpS_mono (wpS_forRange (I := fun i c st => c = ((none, ()) : Option PUnit × Unit) ∧ st = MK κ #[(0, n1, 0)] arr2) (Q := fun c st => c = ((none, ()) : Option PUnit × Unit) ∧ st = MK κ #[(0, n1, 0)] arr2) ?_ ?_ ⟨rfl, rfl⟩) ?_)
        · rintro i c st _ _ ⟨rfl, rfl⟩
          refine wpS_bind (wpS_get ?_)
          rw [if_neg (show ¬ (pendingOf (MK κ #[(0, n1, 0)] arr2)).size > 1 from by show ¬ 1 > 1; exact ar197)]
          exact wpS_pure ⟨rfl, rfl⟩
        · rintro c st ⟨rfl, rfl⟩
          exact ⟨rfl, rfl⟩
        · rintro c st ⟨rfl, rfl⟩
          dsimp only
          refine wpS_bind (wpS_modify (wpS_bind (wpS_modify (wpS_pure ?_))))
          refine .inr (.inr ⟨by exact ar198 h1, by rw [show n1 + (64 - n1) = 64 by exact ar199 hn2], n1, 64 - n1, power' 64 (2 * 0 + n1) (2 * 0 + n1 + n1 + (64 - n1)) 64, arr2, by exact ar200 hn1, by exact ar201 hm1 hm2, by exact ar199 hn2, ?_, hp2, hs3, hs2⟩)
          have em : (#[((0 : Nat), n1, 0)] : Array (Nat × Nat × Nat)).modify 0 (fun x => (x.fst, x.2.fst, power' 64 (2 * 0 + n1) (2 * 0 + n1 + n1 + (64 - n1)) 64)) = #[(0, n1, power' 64 (2 * 0 + n1) (2 * 0 + n1 + n1 + (64 - n1)) 64)] := by
            apply Array.toList_inj.mp
            simp
          show SortSt.mk' κ arr2 (((#[((0 : Nat), n1, 0)] : Array (Nat × Nat × Nat)).modify 0 (fun x => (x.fst, x.2.fst, power' 64 (2 * 0 + n1) (2 * 0 + n1 + n1 + (64 - n1)) 64))).push (n1, 64 - n1, 0)) 7 none = _
          rw [em]; rfl
      · rw [if_neg hlt]
        have em : m = 64 - n1 := by exact ar202 hm1 hn1 hm2 hlt
        subst em
        have hs3 := low arr1 hlow1
        refine wpS_bind (wpS_get ?_)
        rw [show (pendingOf (MK κ #[(0, n1, 0)] arr1)).back? = some (0, n1, 0) from rfl]
        dsimp only
        refine wpS_bind (wpS_mono (wpS_forRange (I := fun i c st => c = ((none, ()) : Option PUnit × Unit) ∧ st = MK κ #[(0, n1, 0)] arr1) (Q := fun c st => c = ((none, ()) : Option PUnit × Unit) ∧ st = MK κ #[(0, n1, 0)] arr1) ?_ ?_ ⟨rfl, rfl⟩) ?_)
        · rintro i c st _ _ ⟨rfl, rfl⟩
          refine wpS_bind (wpS_get ?_)
          rw [if_neg (show ¬ (pendingOf (MK κ #[(0, n1, 0)] arr1)).size > 1 from by show ¬ 1 > 1; exact ar197)]
          exact wpS_pure ⟨rfl, rfl⟩
        · rintro c st ⟨rfl, rfl⟩
          exact ⟨rfl, rfl⟩
        · rintro c st ⟨rfl, rfl⟩
          dsimp only
          refine wpS_bind (wpS_modify (wpS_bind (wpS_modify (wpS_pure ?_))))
          refine .inr (.inr ⟨by exact ar198 h1, by rw [show n1 + (64 - n1) = 64 by exact ar199 hn2], n1, 64 - n1, power' 64 (2 * 0 + n1) (2 * 0 + n1 + n1 + (64 - n1)) 64, arr1, by exact ar200 hn1, by exact ar203 hm1, by exact ar199 hn2, ?_, hp1, hs3, hs1⟩)
          have em : (#[((0 : Nat), n1, 0)] : Array (Nat × Nat × Nat)).modify 0 (fun x => (x.fst, x.2.fst, power' 64 (2 * 0 + n1) (2 * 0 + n1 + n1 + (64 - n1)) 64)) = #[(0, n1, power' 64 (2 * 0 + n1) (2 * 0 + n1 + n1 + (64 - n1)) 64)] := by
            apply Array.toList_inj.mp
            simp
          show SortSt.mk' κ arr1 (((#[((0 : Nat), n1, 0)] : Array (Nat × Nat × Nat)).modify 0 (fun x => (x.fst, x.2.fst, power' 64 (2 * 0 + n1) (2 * 0 + n1 + n1 + (64 - n1)) 64))).push (n1, 64 - n1, 0)) 7 none = _
          rw [em]; rfl
    · dsimp only
      rw [if_pos (Nat.le_refl _)]
      exact wpS_pure ⟨rfl, arr', hp', .inr ⟨n1, n2, pw, hn1, hn2, hn, rfl, hs1, hs2⟩⟩
  · rintro c st (⟨h0, _, _⟩ | ⟨h1, n1, arr', hn1, hn2, hi64, rfl, rfl, hp', hs'⟩ | ⟨h1, rfl, n1, n2, pw, arr', hn1, hn2, hn, rfl, hp', hs1, hs2⟩)
    · exfalso; exact ar204 h0
    · have e : n1 = 64 := by exact ar205 hi64
      subst e
      exact ⟨rfl, arr', hp', .inl ⟨rfl, hs'⟩⟩
    · exact ⟨rfl, arr', hp', .inr ⟨n1, n2, pw, hn1, hn2, hn, rfl, hs1, hs2⟩⟩
  · rintro c st ⟨rfl, arr', hp', hst⟩
    dsimp only
    rcases hst with ⟨rfl, hs'⟩ | ⟨n1, n2, pw, hn1, hn2, hn, rfl, hs1, hs2⟩
    · refine wpS_bind (wpS_mono (wpS_forRange (I := fun i c st => c = ((none, ()) : Option PUnit × Unit) ∧ st = MK κ #[(0, 64, 0)] arr') (Q := fun c st => c = ((none, ()) : Option PUnit × Unit) ∧ st = MK κ #[(0, 64, 0)] arr') ?_ ?_ ⟨rfl, rfl⟩) ?_)
      · rintro i c st _ _ ⟨rfl, rfl⟩
        refine wpS_bind (wpS_get ?_)
        rw [if_pos (show (pendingOf (MK κ #[(0, 64, 0)] arr')).size ≤ 1 from Nat.le_refl 1)]
        exact wpS_pure ⟨rfl, rfl⟩
      · rintro c st ⟨rfl, rfl⟩
        exact ⟨rfl, rfl⟩
      · rintro c st ⟨rfl, rfl⟩
        exact wpS_pure (h arr' _ 7 hp' (by rw [h64]; exact hs'))
    · refine wpS_bind (wpS_mono (wpS_forRange (I := fun i c st => c = ((none, ()) : Option PUnit × Unit) ∧ ((i = 0 ∧ st = MK κ #[(0, n1, pw), (n1, n2, 0)] arr') ∨ (1 ≤ i ∧ ∃ arr2 g, arr2.Perm arr0 ∧ SegS kf arr2 0 arr2.size ∧ st = setG (MK κ #[(0, n1 + n2, pw)] arr2) g)))
        (Q := fun c st => c = ((none, ()) : Option PUnit × Unit) ∧ ∃ arr2 g, arr2.Perm arr0 ∧ SegS kf arr2 0 arr2.size ∧ st = setG (MK κ #[(0, n1 + n2, pw)] arr2) g) ?_ ?_ ⟨rfl, .inl ⟨rfl, rfl⟩⟩) ?_)
      · rintro i c st _ _ ⟨rfl, (⟨rfl, rfl⟩ | ⟨h1, arr2, g, hp2, hs, rfl⟩)⟩
        · refine wpS_bind (wpS_get ?_)
          rw [if_neg (show ¬ (pendingOf (MK κ #[(0, n1, pw), (n1, n2, 0)] arr')).size ≤ 1 from by show ¬ 2 ≤ 1; exact ar206)]
          have ei : (pendingOf (MK κ #[(0, n1, pw), (n1, n2, 0)] arr')).size - 2 = 0 := rfl
          rw [ei]
          rw [if_neg (show ¬ 0 > 0 by exact ar207)]
          rw [show (Option.any (fun x : Nat => decide (x < ((pendingOf (MK κ #[(0, n1, pw), (n1, n2, 0)] arr'))[0 + 1]?.elim 0 (·.2.1)))) none) = false from rfl]
          rw [if_neg (by decide)]
          have := hp'.size_eq
          refine wpS_bind (merge_g hc hnd hp' hn1 hn2 (by exact ar208 hn h64 this) hs1 hs2 fun arr2 g hp2 hs => ?_)
          rw [if_neg (by decide)]
          exact wpS_pure ⟨rfl, .inr ⟨by exact ar180, arr2, g, hp2, hs, rfl⟩⟩
        · refine wpS_bind (wpS_get ?_)
          rw [if_pos (show (pendingOf (setG (MK κ #[(0, n1 + n2, pw)] arr2) g)).size ≤ 1 from Nat.le_refl 1)]
          exact wpS_pure ⟨rfl, arr2, g, hp2, hs, rfl⟩
      · rintro c st ⟨rfl, (⟨h0, _⟩ | ⟨h1, r⟩)⟩
        · exfalso; exact ar204 h0
        · exact ⟨rfl, r⟩
      · rintro c st ⟨rfl, arr2, g, hp2, hs, rfl⟩
        exact wpS_pure (h arr2 _ g hp2 (by rw [← hp2.size_eq]; exact hs))
end
end
section
local macro_rules | `(tactic| k_inst) => `(tactic| first | exact inst_keeps (by assumption) (Fr.keep (by assumption)) | exact inst_keeps2 (by assumption) (by assumption) (by assumption))
local macro_rules | `(tactic| walk_at "call ref") => `(tactic| (k_here; k_dflt (refine' callK ?k1 ?k2 ?k4 ?k5 ?k8 ?k6 ?k7 ?k9 ?kB ?kR ?_ ?c2 ?c3 ?c4 ?c5; (case k1 => k_asm); (case k2 => k_asm); (case k4 => k_asm); (case k5 => k_asm); (case k6 => k_is); (case k7 => k_is); (case k8 => ((try simp only [depth_under_make, depth_under_kw, depth_in1, depth_deeper, depth_caller]); omega)); (case k9 => first | exact BindsTo.of_eq rfl | exact binds_K (by k_in) rfl (by k_is) rfl rfl rfl | fail "k_enter: no rule for these arguments"); (case c5 => decide); (case kB => exact locs rfl); (case kR => exact rfl); (case c2 => exact rfl); (case c3 => exact rfl); (case c4 => exact rfl); k_whole; intro g' L' h' F' N' X' T' S'; (try dsimp only); (try k_fold))))
local macro_rules | `(tactic| walk_at "BackTo") => `(tactic| (dsimp only [BackTo]))
local macro_rules | `(tactic| walk_at "eval ListComp") => `(tactic| (k_here; k_dflt (refine' comp_eval ?f ?k ?n ?_ ?s; (case f => decide); (case k => rfl); (case n => decide); (case s => (intro _; rfl)); k_whole); (try k_fold)))
local macro_rules | `(tactic| walk_at "eval Name") => `(tactic| (k_here; (with_reducible show wpAny _ _ (eval (Expr.Name _ _) (compEnv _ _ _)) _ _ _); k_dflt (refine' ldC ?F ?v ?_ ?k ?l ?d; (case F => k_asm); (case k => exact rfl); (case l => exact rfl); (case v => exact rfl); (case d => decide); k_whole)))
local macro_rules | `(tactic| walk_at $s:str) => `(tactic| k_extra $s)
section
-- D1
open PySem.Spec
theorem fillD1 : ∀ P : Params, (hd.heap_39 P) = hd.heap_39 P ∧ PySem.Challenge.rw_og0075_01 = PySem.Challenge.rw_og0075_01 := by
  k_fill
  intro P; exact ⟨rfl, rfl⟩

/-- what can be read off a ledger beside the base -/
noncomputable def ReadsL (hB : Heap) (tl : List (Addr × Obj)) (r : Value) (D : PyData) : Prop := ∀ h : Heap, (∀ b o, hB.get? b = some o → h.get? b = some o) → (∀ q ∈ tl, h.get? q.1 = some q.2) → Reads h r D []

noncomputable def occD (b : Bool) : PyData := if b = true then .tuple [.int 2, .int 2, .none, .tuple [], .tuple []] else .none
noncomputable def clausesD (n : Nd) : PyData := .tuple [.none, .str n.us, .str (Str.ofString ""), .bool false, occD n.occ, .str n.rd, .none, .bool false, .bool false, .none]

theorem readsAll_cons0 {h : Heap} {v : Value} {d : PyData} {vs : List Value} {ds : List PyData} (h1 : Reads h v d []) (h2 : ReadsAll h vs ds []) : ReadsAll h (v :: vs) (d :: ds) [] := ReadsAll.cons h1 h2
theorem clauses_ {prog : Program} {w : World} {A : Around} {s : Shared} {p : Program} {loose : List Str} {mean : ExcName → Option Value} {mg mb : Str → Option Value} {hB : Heap} {x : Addr} {par : Value} {n : Nd} {tops : List Addr} (X : (hd.heap_39 w.params).In hB) (T : Top p loose mean mg mb hB) (st : hB.StaysIn s.heap) (hx : NodeR (fun a o => hB.get? a = some o) w.params par x n tops) (hd : A.depth + 4 < recursionLimit) :
    Does prog w A [] (call (.ref 80) [.ref x]) s (fun r tl => ReadsL hB tl r (clausesD n)) := by
  intro Q E k
  have hH : ∀ q ∈ ([] : List (Addr × Obj)), s.heap.get? q.1 = some q.2 ∧ hB.get? q.1 = none := fun _ h => nomatch h
  have hroom : A.depth < recursionLimit := by exact ar379 hd
  refine' enterF (binds := [(Str.ofString "self", .ref x)]) (rb := [(Str.ofString "self", .ref x)]) X T st hH hroom ?ho ?hcd ?hb ?hl ?hr ?_ ?c2 ?c3 ?c4 ?c5
  case ho => k_is
  case hcd => k_is
  case hb => exact BindsTo.of_eq rfl
  case hl => exact locs rfl
  case hr => exact rfl
  case c2 => exact rfl
  case c3 => exact rfl
  case c4 => exact rfl
  case c5 => decide
  intro g L' h₁ F1 N1 X1 T1 st1 up dn
  obtain ⟨dx, kl, cl, tk, occ, en, kn, cn, h1, h2, h3, h4, h5⟩ := hx
  have hI : PySem.W.InstAt g x (instObj 88 dx) 88 (some (dictOf (nodeEs w.params tk n occ cl kl par) en)) := ⟨st1 _ _ h1, rfl, rfl, st1 _ _ h2⟩
  cases e : n.occ with
  | false =>
    rw [e] at h5
    have h5' : occ = .none := h5
    subst h5'
    try k_fold
    k_steps
    rename Fr g L' _ _ => F2
    rename News g L' _ _ => N2
    refine k _ _ _ _ (leaveFresh F2 N2 up).1 (leaveFresh F2 N2 up).2 fun h hb hq => ?_
    unfold clausesD occD
    rw [e]
    refine reads_tuple_at (hq _ (.head _)) rfl rfl ?_
    exact readsAll_cons0 .none (readsAll_cons0 (.str _ _) (readsAll_cons0 (.str _ _) (readsAll_cons0 (.bool _) (readsAll_cons0 .none (readsAll_cons0 (.str _ _) (readsAll_cons0 .none (readsAll_cons0 (.bool _) (readsAll_cons0 (.bool _) (readsAll_cons0 .none .nil)))))))))
  | true =>
    rw [e] at h5
    obtain ⟨o, od, tko, eno, rfl, o1, o2⟩ := h5
    have hO : PySem.W.InstAt g o (instObj 41 od) 41 (some (dictOf (occEs w.params tko) eno)) := ⟨st1 _ _ o1, rfl, rfl, st1 _ _ o2⟩
    try k_fold
    k_steps
    rename Fr g L' _ _ => F2
    rename News g L' _ _ => N2
    refine k _ _ _ _ (leaveFresh F2 N2 up).1 (leaveFresh F2 N2 up).2 fun h hb hq => ?_
    unfold clausesD occD
    rw [e]
    refine reads_tuple_at (hq _ (.head _)) rfl rfl ?_
    refine readsAll_cons0 .none (readsAll_cons0 (.str _ _) (readsAll_cons0 (.str _ _) (readsAll_cons0 (.bool _) (readsAll_cons0 ?_ (readsAll_cons0 (.str _ _) (readsAll_cons0 .none (readsAll_cons0 (.bool _) (readsAll_cons0 (.bool _) (readsAll_cons0 .none .nil)))))))))
    rw [if_pos rfl]
    refine reads_tuple_at (hq _ (.tail _ (.tail _ (.tail _ (.head _))))) rfl rfl ?_
    exact readsAll_cons0 (.int _ _) (readsAll_cons0 (.int _ _) (readsAll_cons0 .none (readsAll_cons0 (reads_tuple_at (vs := #[]) (n := 0) (hb _ _ (X 22 _ (by k_is))) rfl rfl .nil) (readsAll_cons0 (reads_tuple_at (vs := #[]) (n := 0) (hb _ _ (X 23 _ (by k_is))) rfl rfl .nil) .nil))))
end
section
-- D2
open PySem.Spec
theorem fillD2 : ∀ P : Params, (hd.heap_39 P) = hd.heap_39 P ∧ PySem.Challenge.rw_og0075_01 = PySem.Challenge.rw_og0075_01 := by
  k_fill
  intro P; exact ⟨rfl, rfl⟩

noncomputable def toldD : G → List PyData
  | .nil => []
  | .cons _ n k r => .tuple [.int n.lvl, .str n.nm, clausesD n, .tuple [], .tuple (toldD k)] :: toldD r

noncomputable def ToldI (hB : Heap) (k : G) (news0 : List (Addr × Obj)) (i : Nat) (acc : List Value) (news : List (Addr × Obj)) : Prop :=
  acc.length = i ∧ (∀ (j : Nat) v, acc[j]? = some v → ∃ D, (toldD k)[j]? = some D ∧ ReadsL hB news v D) ∧ (∀ q ∈ news0, q ∈ news) ∧ i ≤ k.tops.length
theorem toldI0 {hB : Heap} {k : G} {news0 : List (Addr × Obj)} : ToldI hB k news0 0 [] news0 := ⟨rfl, fun _ _ h => by simp at h, fun _ h => h, Nat.zero_le _⟩
theorem ReadsL.mono {hB : Heap} {tl tl' : List (Addr × Obj)} {r : Value} {D : PyData} (h : ReadsL hB tl r D) (k : ∀ q ∈ tl, q ∈ tl') : ReadsL hB tl' r D := fun h' hb hq => h h' hb fun q hm => hq q (k q hm)
theorem toldD_len : ∀ k : G, (toldD k).length = k.tops.length
  | .nil => rfl
  | .cons _ _ _ r => by show (toldD r).length + 1 = r.tops.length + 1; rw [toldD_len r]
theorem readsAll_of {h : Heap} : ∀ {vs : List Value} {ds : List PyData}, vs.length = ds.length → (∀ (j : Nat) v, vs[j]? = some v → ∃ D, ds[j]? = some D ∧ Reads h v D []) → ReadsAll h vs ds []
  | [], [], _, _ => .nil
  | v :: vs, d :: ds, e, k => by
    obtain ⟨D, h1, h2⟩ := k 0 v rfl
    have : d = D := by simpa using h1
    subst this
    exact readsAll_cons0 h2 (readsAll_of (by simpa using e) fun j u hu => by
      obtain ⟨D, h3, h4⟩ := k (j + 1) u (by simpa using hu)
      exact ⟨D, by simpa using h3, h4⟩)
theorem toldI_next {hB : Heap} {k : G} {news0 news tl : List (Addr × Obj)} {i : Nat} {acc : List Value} {r : Value} {D : PyData} {y : Addr} (h : ToldI hB k news0 i acc news) (hy : k.tops[i]? = some y) (h1 : (toldD k)[i]? = some D) (h2 : ReadsL hB tl r D) : ToldI hB k news0 (i + 1) (acc ++ [r]) (tl ++ news) := by
  obtain ⟨a1, a2, a3, a4⟩ := h
  refine ⟨by rw [List.length_append, a1]; rfl, fun j v hv => ?_, fun q hq => List.mem_append_right _ (a3 q hq), ?_⟩
  · rcases Nat.lt_trichotomy j i with hj | hj | hj
    · rw [List.getElem?_append_left (by exact ar17 hj a1)] at hv
      obtain ⟨D', b1, b2⟩ := a2 j v hv
      exact ⟨D', b1, b2.mono fun q hq => List.mem_append_right _ hq⟩
    · subst hj
      rw [List.getElem?_append_right (by exact ar380 a1), a1, Nat.sub_self] at hv
      have : r = v := by simpa using hv
      subst this
      exact ⟨D, h1, h2.mono fun q hq => List.mem_append_left _ hq⟩
    · rw [List.getElem?_eq_none (by rw [List.length_append, a1]; show i + 1 ≤ j; exact ar381 hj)] at hv
      cases hv
  · have := (List.getElem?_eq_some_iff.mp hy).1
    exact ar381 this
/-- told of one node, whose kids' told is known -/
theorem told_S {prog : Program} {w : World} {A : Around} {s : Shared} {p : Program} {loose : List Str} {mean : ExcName → Option Value} {mg mb : Str → Option Value} {hB : Heap} {x : Addr} {par : Value} {n : Nd} {k : G} (X : (hd.heap_39 w.params).In hB) (T : Top p loose mean mg mb hB) (st : hB.StaysIn s.heap) (hx : NodeR (fun a o => hB.get? a = some o) w.params par x n k.tops) (hd : A.depth + 8 < recursionLimit) (hh : A.handled = none) (hz : k.tops.length ≤ 2)
    (hk : KidsR (fun a o => hB.get? a = some o) w.params (.ref x) k)
    (ih : ∀ (i : Nat) (y : Addr), k.tops[i]? = some y → ∀ (A' : Around) (s' : Shared), hB.StaysIn s'.heap → A'.depth ≤ A.depth + 1 → A'.handled = none → Does prog w A' [] (call (.ref 85) [.ref y]) s' (fun r tl => ∃ D, (toldD k)[i]? = some D ∧ ReadsL hB tl r D)) :
    Does prog w A [] (call (.ref 85) [.ref x]) s (fun r tl => ReadsL hB tl r (.tuple [.int n.lvl, .str n.nm, clausesD n, .tuple [], .tuple (toldD k)])) := by
  intro Q E kk
  have hH : ∀ q ∈ ([] : List (Addr × Obj)), s.heap.get? q.1 = some q.2 ∧ hB.get? q.1 = none := fun _ h => nomatch h
  have hroom : A.depth < recursionLimit := by exact ar382 hd
  refine' enterF (binds := [(Str.ofString "self", .ref x)]) (rb := [(Str.ofString "self", .ref x)]) X T st hH hroom ?ho ?hcd ?hb ?hl ?hr ?_ ?c2 ?c3 ?c4 ?c5
  case ho => k_is
  case hcd => k_is
  case hb => exact BindsTo.of_eq rfl
  case hl => exact locs rfl
  case hr => exact rfl
  case c2 => exact rfl
  case c3 => exact rfl
  case c4 => exact rfl
  case c5 => decide
  intro g L' h₁ F1 N1 X1 T1 st1 up dn
  have hx' := hx
  obtain ⟨dx, kl, cl, tk, occ, en, kn, cn, h1, h2, h3, h4, h5⟩ := hx
  have hI : PySem.W.InstAt g x (instObj 88 dx) 88 (some (dictOf (nodeEs w.params tk n occ cl kl par) en)) := ⟨st1 _ _ h1, rfl, rfl, st1 _ _ h2⟩
  k_with "pyIter ref" => (refine stop_here ?_)
  k_with "call ref" => ((with_reducible show wpAny _ _ (call (Value.ref 80) _ _) _ _ _); refine stop_here ?_)
  try k_fold
  k_steps
  refine ⟨?_⟩
  k_dflt (refine comp_srcH (vs := []) (fun i acc news => acc = [] ∧ news = []) hh F1 X1 T1 N1 ⟨_, st1 _ _ h3, rfl, cn, rfl⟩ (by decide) rfl ⟨rfl, rfl⟩ (fun _ _ _ h => by rw [h.1]; exact Nat.zero_le _) ?_ ?_)
  · intro g C D J i v _ _ _ _ _ _ _ _ _ _ _ _ _ hv
    cases hv
  intro h2' J _ F2 lt o
  refine fin_eval ?_
  rintro D h3' tk3 acc dn news' ⟨rfl, rfl⟩ F3 N3 lt3
  clear F1 N1 F2
  try k_fold
  k_steps
  refine ⟨?_⟩
  rename Fr g L' _ _ => F4
  rename News g L' _ _ => N4
  k_dflt (refine Does.use (ws := []) (rest := _) (clauses_ X T (fun b o e => F4.keep b o (st1 b o e)) hx' (by show A.depth + 1 + 4 < recursionLimit; exact ar383 hd)) F4 N4 (fun _ h => nomatch h) (fun _ _ h => nomatch h) ?_)
  intro rc h5' tk5 tl5 F5 N5 a5 hr5
  clear F4
  k_with_none
  k_with "pyIter ref" => (refine stop_here ?_)
  try k_fold
  k_steps
  refine ⟨?_⟩
  rename Fr g L' _ _ => F6
  rename News g L' _ _ => N6
  obtain ⟨news0, e0, N6⟩ : ∃ l, l = _ ∧ News g L' _ l := ⟨_, rfl, N6⟩
  k_dflt (refine comp_srcH (vs := k.tops.map Value.ref) (ToldI hB k news0) hh F6 X1 T1 N6 ⟨_, st1 _ _ h4, rfl, kn, rfl⟩ (by decide) rfl toldI0 (fun i _ _ h => by rw [h.1, sizeLine_eq]; have := h.2.2.2; exact ar384 hz this) ?_ ?_)
  · intro g2 C D2 J2 i v m₁ acc dn2 news₁ h7 tk7 o7 X7 T7 S7 up7 lt7 lj7 hv I7 a7 F7 N7
    obtain ⟨y, hy, rfl⟩ : ∃ y, k.tops[i]? = some y ∧ v = .ref y := by
      rw [List.getElem?_map] at hv
      cases hq : k.tops[i]? with
      | none => rw [hq] at hv; cases hv
      | some y => rw [hq] at hv; exact ⟨y, rfl, (Option.some.inj hv).symm⟩
    refine turn_name rfl rfl F7 N7 fun h8 F8 N8 => turn_noif ?_
    obtain ⟨ny, ty, hny⟩ := kidsR_at hk i y hy
    obtain ⟨dy, kly, cly, tky, occy, eny, kny, cny, y1, y2, y3, y4, y5⟩ := hny
    have hIy : PySem.W.InstAt g2 y (instObj 88 dy) 88 (some (dictOf (nodeEs w.params tky ny occy cly kly (.ref x)) eny)) := ⟨S7 _ _ (st1 _ _ y1), rfl, rfl, S7 _ _ (st1 _ _ y2)⟩
    clear F7 N7
    k_with "call ref" => ((with_reducible show wpAny _ _ (call (Value.ref 85) _ _) _ _ _); refine stop_here ?_)
    k_steps
    refine ⟨?_⟩
    k_dflt (refine Does.use (ws := []) (rest := _) (ih i y hy _ _ (fun b o e => F8.keep b o (S7 b o (st1 b o e))) (Nat.le_refl _) hh) F8 N8 (fun _ h => nomatch h) (fun _ _ h => nomatch h) ?_)
    rintro r9 h9 tk9 tl9 F9 N9 a9 ⟨Dy, hDy, hr9⟩
    k_steps
    refine ⟨⟨_, _, _, tl9 ++ news₁, rfl, F9, News.sub N9 ?_, ?_, toldI_next I7 hy hDy hr9⟩⟩
    · intro q hq
      exact (by walk_at "mine subs" : ∀ z ∈ _, z ∈ _) q hq
    · intro q hq
      rcases List.mem_append.mp hq with h | h
      · rcases a9 q h with z | z
        · cases z
        · exact ⟨(z _ (.tail _ (.head _))).symm, (z _ (.head _)).symm⟩
      · exact a7 q h
  · intro h2'' J3 _ F10' lt' o3
    refine fin_eval ?_
    intro D3 h10 tk10 acc dn3 news' hI10 F10 N10 lt10
    clear F10'
    k_with_none
    k_with "call type:tuple" => (refine stop_here ?_)
    try k_fold
    k_steps
    refine ⟨?_⟩
    k_dflt (refine kde_tupleOf (zs := acc) F10 N10 (News.isList N10 (.head _)) ?_ rfl ?_)
    · rw [List.size_toArray, hI10.1]; have := hI10.2.2.2; simp only [List.length_map]; exact ar385 hz
    intro D4 h11 F11 N11 l11
    clear F10 N10
    k_steps
    rename Fr g L' _ _ => F12
    rename News g L' _ _ => N12
    refine kk _ _ _ _ (leaveFresh F12 N12 up).1 (leaveFresh F12 N12 up).2 fun h hb hq => ?_
    obtain ⟨b1, b2, b3, b4⟩ := hI10
    have hq0 : ∀ q ∈ news0, h.get? q.1 = some q.2 := fun q hm => hq q (.tail _ (.tail _ (.tail _ (b3 q hm))))
    subst e0
    refine reads_tuple_at (hq _ (.head _)) rfl rfl (readsAll_cons0 (.int _ _) (readsAll_cons0 (.str _ _) (readsAll_cons0 (hr5 h hb fun q hm => hq0 q (List.mem_append_left _ hm)) (readsAll_cons0 ?_ (readsAll_cons0 ?_ .nil)))))
    · exact reads_tuple_at (hq0 _ (List.mem_append_right _ (.head _))) rfl rfl .nil
    · refine reads_tuple_at (hq _ (.tail _ (.head _))) rfl rfl (readsAll_of (by show acc.length = _; rw [b1, toldD_len, List.length_map]) fun j v hv => ?_)
      obtain ⟨D', c1, c2⟩ := b2 j v hv
      exact ⟨D', c1, c2 h hb fun q hm => hq q (.tail _ (.tail _ (.tail _ hm)))⟩

theorem told_ {prog : Program} {w : World} {p : Program} {loose : List Str} {mean : ExcName → Option Value} {mg mb : Str → Option Value} {hB : Heap} (X : (hd.heap_39 w.params).In hB) (T : Top p loose mean mg mb hB) : ∀ (gr : G) (d : Nat) (par : Value), KidsR (fun a o => hB.get? a = some o) w.params par gr → gr.Bd d →
    ∀ (i : Nat) (y : Addr), gr.tops[i]? = some y → ∀ (A' : Around) (s' : Shared), hB.StaysIn s'.heap → A'.depth + d + 8 < recursionLimit → A'.handled = none → Does prog w A' [] (call (.ref 85) [.ref y]) s' (fun r tl => ∃ D, (toldD gr)[i]? = some D ∧ ReadsL hB tl r D)
  | .nil, _, _, _, _, i, y, h => by cases h
  | .cons x n k r, 0, _, _, hb, _, _, _ => hb.elim
  | .cons x n k r, d + 1, par, hk, hb, 0, y, h => by
    intro A' s' st hd hh
    have e : x = y := by simpa [G.tops] using h
    subst e
    have := told_S (prog := prog) (s := s') X T st hk.1 (by exact ar386 hd) hh hb.1 hk.2.1 (fun i y hy A2 s2 st2 h2 hh2 => told_ X T k d (.ref x) hk.2.1 hb.2.1 i y hy A2 s2 st2 (by exact ar387 hd h2) hh2)
    intro Q E kk
    exact this Q E fun r h' tk' tl a b c => kk r h' tk' tl a b ⟨_, rfl, c⟩
  | .cons x n k r, d + 1, par, hk, hb, i + 1, y, h => by
    intro A' s' st hd hh Q E kk
    exact told_ X T r (d + 1) par hk.2.2 hb.2.2 i y (by simpa [G.tops] using h) A' s' st (by exact ar388 hd) hh Q E fun r h' tk' tl a b ⟨D, c1, c2⟩ => kk r h' tk' tl a b ⟨D, by simpa [toldD] using c1, c2⟩
end
section
-- E1
open PySem.Spec
theorem fillE1 : ∀ P : Params, (hd.heap_39 P) = hd.heap_39 P ∧ PySem.Challenge.rw_og0075_01 = PySem.Challenge.rw_og0075_01 := by
  k_fill
  intro P; exact ⟨rfl, rfl⟩

/-- a node that counts as a kid: no renaming -/
noncomputable def G.kept : G → List Addr
  | .nil => []
  | .cons x n _ r => if n.lvl = 66 then r.kept else x :: r.kept
noncomputable def G.group : G → Bool
  | .nil => false
  | .cons _ n _ r => if n.lvl = 66 then r.group else true
noncomputable def G.nodeAt : G → Nat → Option (Addr × Nd × G)
  | .nil, _ => none
  | .cons x n k _, 0 => some (x, n, k)
  | .cons _ _ _ r, i + 1 => r.nodeAt i
theorem nodeAt_tops : ∀ (g : G) (i : Nat), (g.nodeAt i).map (·.1) = g.tops[i]?
  | .nil, i => by simp [G.nodeAt, G.tops]
  | .cons x n k r, 0 => by simp [G.nodeAt, G.tops]
  | .cons x n k r, i + 1 => by simpa [G.nodeAt, G.tops] using nodeAt_tops r i
theorem nodeAt_kids {has : Addr → Obj → Prop} {P : Params} {par : Value} : ∀ {g : G}, KidsR has P par g → ∀ {i : Nat} {y : Addr} {n : Nd} {k : G}, g.nodeAt i = some (y, n, k) → NodeR has P par y n k.tops ∧ KidsR has P (.ref y) k
  | .cons x n k r, h, 0, _, _, _, e => by cases e; exact ⟨h.1, h.2.1⟩
  | .cons x n k r, h, i + 1, _, _, _, e => nodeAt_kids h.2.2 e
theorem nodeAt_of_top {g : G} {i : Nat} {y : Addr} (h : g.tops[i]? = some y) : ∃ n k, g.nodeAt i = some (y, n, k) := by
  rw [← nodeAt_tops] at h
  obtain ⟨⟨y', n, k⟩, e, rfl⟩ := Option.map_eq_some_iff.mp h
  exact ⟨n, k, e⟩
theorem group_iff : ∀ g : G, g.group = true ↔ ∃ i y n k, g.nodeAt i = some (y, n, k) ∧ n.lvl ≠ 66
  | .nil => by simp [G.group, G.nodeAt]
  | .cons x n k r => by
    unfold G.group
    by_cases e : n.lvl = 66
    · rw [if_pos e, group_iff r]
      constructor
      · rintro ⟨i, h⟩; exact ⟨i + 1, h⟩
      · rintro ⟨i, y, n', k', h, h2⟩
        cases i with
        | zero => cases h; exact absurd e h2
        | succ i => exact ⟨i, y, n', k', h, h2⟩
    · rw [if_neg e]
      exact ⟨fun _ => ⟨0, x, n, k, rfl, e⟩, fun _ => rfl⟩

/-- the list that is built out of kids of other level than 66 is empty so far -/
noncomputable def GrpI (k : G) (i : Nat) (acc : List Value) (news : List (Addr × Obj)) : Prop :=
  news = [] ∧ acc.length ≤ i ∧ i ≤ k.tops.length ∧ (acc = [] ↔ ∀ j, j < i → ∀ y n ks, k.nodeAt j = some (y, n, ks) → n.lvl = 66)

theorem ne_nil {prog : Program} {w : World} {A : Around} {E : Value → Shared → Prop} {s : Shared} {a b : Addr} {acc : List Value} {Q : Value → Shared → Prop} (ha : s.heap.IsList a acc.toArray) (hb : s.heap.IsList b #[]) (hu : A.units < cLine) (h : Q (.bool (!acc.isEmpty)) s) :
    wpAny (model prog w) A (compareOp .NotEq (.ref a) (.ref b)) Q E s := by
  refine cmp_ofNotEq ?_
  cases acc with
  | nil => exact PySem.SeqAt.RcNeAt.lists (e := fun _ => true) ha hb rfl hu (fun j h1 => absurd h1 (Nat.not_lt_zero _)) prog w E Q h
  | cons v vs => exact PySem.SeqAt.RcNeAt.lists_lengths ha hb rfl hu prog w E Q h

theorem isgroup_ {prog : Program} {w : World} {A : Around} {s : Shared} {p : Program} {loose : List Str} {mean : ExcName → Option Value} {mg mb : Str → Option Value} {hB : Heap} {x : Addr} {par : Value} {n : Nd} {k : G} (X : (hd.heap_39 w.params).In hB) (T : Top p loose mean mg mb hB) (st : hB.StaysIn s.heap) (hx : NodeR (fun a o => hB.get? a = some o) w.params par x n k.tops) (hd : A.depth + 8 < recursionLimit) (hh : A.handled = none) (hz : k.tops.length ≤ 2)
    (hu : A.units < 1000)
    (hk : KidsR (fun a o => hB.get? a = some o) w.params (.ref x) k) :
    Does prog w A [] (call (.ref 104) [.ref x]) s (fun r tl => r = .bool k.group) := by
  intro Q E kk
  have hH : ∀ q ∈ ([] : List (Addr × Obj)), s.heap.get? q.1 = some q.2 ∧ hB.get? q.1 = none := fun _ h => nomatch h
  have hroom : A.depth < recursionLimit := by exact ar382 hd
  refine' enterF (binds := [(Str.ofString "item", .ref x)]) (rb := [(Str.ofString "item", .ref x)]) X T st hH hroom ?ho ?hcd ?hb ?hl ?hr ?_ ?c2 ?c3 ?c4 ?c5
  case ho => k_is
  case hcd => k_is
  case hb => exact BindsTo.of_eq rfl
  case hl => exact locs rfl
  case hr => exact rfl
  case c2 => exact rfl
  case c3 => exact rfl
  case c4 => exact rfl
  case c5 => decide
  intro g L' h₁ F1 N1 X1 T1 st1 up dn
  obtain ⟨dx, kl, cl, tk, occ, en, kn, cn, h1, h2, h3, h4, h5⟩ := hx
  have hI : PySem.W.InstAt g x (instObj 88 dx) 88 (some (dictOf (nodeEs w.params tk n occ cl kl par) en)) := ⟨st1 _ _ h1, rfl, rfl, st1 _ _ h2⟩
  k_with "pyIter ref" => (refine stop_here ?_)
  try k_fold
  k_steps
  refine ⟨?_⟩
  rename Fr g L' _ _ => F6
  rename News g L' _ _ => N6
  k_dflt (refine comp_srcH (vs := k.tops.map Value.ref) (GrpI k) hh F6 X1 T1 N6 ⟨_, st1 _ _ h4, rfl, kn, rfl⟩ (by decide) rfl ⟨rfl, Nat.le_refl _, Nat.zero_le _, by simp⟩ (fun i _ _ h => by rw [sizeLine_eq]; have := h.2.2.1; have := h.2.1; omega) ?_ ?_)
  · intro g2 C D2 J2 i v m₁ acc dn2 news₁ h7 tk7 o7 X7 T7 S7 up7 lt7 lj7 hv I7 a7 F7 N7
    obtain ⟨y, hy, rfl⟩ : ∃ y, k.tops[i]? = some y ∧ v = .ref y := by
      rw [List.getElem?_map] at hv
      cases hq : k.tops[i]? with
      | none => rw [hq] at hv; cases hv
      | some y => rw [hq] at hv; exact ⟨y, rfl, (Option.some.inj hv).symm⟩
    obtain ⟨ny, ky, hny⟩ := nodeAt_of_top hy
    obtain ⟨dy, kly, cly, tky, occy, eny, kny, cny, y1, y2, y3, y4, y5⟩ := (nodeAt_kids hk hny).1
    have hIy : PySem.W.InstAt g2 y (instObj 88 dy) 88 (some (dictOf (nodeEs w.params tky ny occy cly kly (.ref x)) eny)) := ⟨S7 _ _ (st1 _ _ y1), rfl, rfl, S7 _ _ (st1 _ _ y2)⟩
    obtain ⟨e7, b1, b2, b3⟩ := I7
    subst e7
    have hi1 : i + 1 ≤ k.tops.length := (List.getElem?_eq_some_iff.mp hy).1
    refine turn_name rfl rfl F7 N7 fun h8 F8 N8 => turn_if1 ?_
    clear F7 N7
    k_steps
    · rename ny.lvl ≠ 66 => hne
      rename Fr g2 C _ _ => F9
      rename News g2 C _ _ => N9
      refine ⟨⟨_, _, _, [], rfl, F9, N9, (fun _ h => nomatch h), rfl, by rw [List.length_append]; show acc.length + 1 ≤ i + 1; exact ar343 b1, hi1, ⟨fun e => ?_, fun e => absurd (e i (Nat.lt_succ_self _) _ _ _ hny) hne⟩⟩⟩
      simp at e
    · rename ny.lvl = 66 => he
      rename Fr g2 C _ _ => F9
      rename News g2 C _ _ => N9
      refine ⟨⟨_, _, _, [], rfl, F9, N9, (fun _ h => nomatch h), rfl, Nat.le_succ_of_le b1, hi1, b3.trans ⟨fun e j hj y' n' ks' hn' => ?_, fun e j hj => e j (Nat.lt_succ_of_lt hj)⟩⟩⟩
      rcases Nat.lt_or_ge j i with q | q
      · exact e j q _ _ _ hn'
      · have : j = i := by exact ar344 hj q
        subst this
        rw [hny] at hn'; cases hn'; exact he
  · intro h2'' J3 _ F10' lt' o3
    refine fin_eval ?_
    intro D3 h10 tk10 acc dn3 news' hI10 F10 N10 lt10
    clear F10' F6 N6
    obtain ⟨e10, b1, b2, b3⟩ := hI10
    subst e10
    k_with_none
    try k_fold
    k_steps
    show qk _ _
    k_steps
    rename Fr g L' _ _ => F12
    rename News g L' _ _ => N12
    refine ne_nil (acc := acc) (News.isList N12 (.tail _ (.head _))) (News.isList N12 (.head _)) (by show A.units + 3 < 9900; exact ar389 hu) ?_
    show Q _ _
    have e : (!acc.isEmpty) = k.group := by
      rw [List.length_map] at b3
      cases hg : k.group with
      | false =>
        have : acc = [] := b3.mpr fun j _ y n ks hn => by
          by_cases q : n.lvl = 66
          · exact q
          · rw [(group_iff k).mpr ⟨j, y, n, ks, hn, q⟩] at hg; cases hg
        rw [this]; rfl
      | true =>
        obtain ⟨i, y, n, ks, h1, h2⟩ := (group_iff k).mp hg
        cases acc with
        | nil =>
          refine absurd (b3.mp rfl i ?_ y n ks h1) h2
          have h3 := nodeAt_tops k i
          rw [h1] at h3
          exact (List.getElem?_eq_some_iff.mp h3.symm).1
        | cons _ _ => rfl
    rw [e]
    exact kk _ _ _ _ (leaveFresh F12 N12 up).1 (leaveFresh F12 N12 up).2 rfl
end
section
-- E2
open PySem.Spec
theorem fillE2 : ∀ P : Params, (hd.heap_39 P) = hd.heap_39 P ∧ PySem.Challenge.rw_og0075_01 = PySem.Challenge.rw_og0075_01 := by
  k_fill
  intro P; exact ⟨rfl, rfl⟩
local macro_rules | `(tactic| k_handed) => `(tactic| assumption)

/-- the way up from a parent to the root, usage nowhere -/
noncomputable def UpR (has : Addr → Obj → Prop) (P : Params) : Value → List Addr → Prop
  | par, [] => par = .none
  | par, a :: l => par = .ref a ∧ ∃ n tops par', NodeR has P par' a n tops ∧ n.us = Str.ofString "" ∧ UpR has P par' l
theorem UpR.mono {has has' : Addr → Obj → Prop} {P : Params} : ∀ {l : List Addr} {par : Value}, UpR has P par l → (∀ a o, has a o → has' a o) → UpR has' P par l
  | [], _, h, _ => h
  | _ :: _, _, ⟨h1, n, tops, par', h2, h3, h4⟩, k => ⟨h1, n, tops, par', h2.mono k, h3, h4.mono k⟩
theorem UpR.at {has : Addr → Obj → Prop} {P : Params} : ∀ {l : List Addr} {par : Value}, UpR has P par l → ∀ {i : Nat} {y : Addr}, l[i]? = some y → ∃ n tops par', NodeR has P par' y n tops ∧ n.us = Str.ofString ""
  | _ :: _, _, ⟨_, n, tops, par', h2, h3, _⟩, 0, y, e => by
    have : _ = y := Option.some.inj (by simpa using e)
    subst this; exact ⟨n, tops, par', h2, h3⟩
  | _ :: _, _, ⟨_, _, _, _, _, _, h4⟩, i + 1, y, e => h4.at (by simpa using e)

theorem UpR.handed {has : Addr → Obj → Prop} {P : Params} {l : List Addr} {par : Value} (h : UpR has P par l) : handedIn par = true := by
  cases l with
  | nil => have : par = .none := h; rw [this]; rfl
  | cons a l => rw [h.1]; rfl
/-- the loop of items_around: l0 is found, l is left -/
inductive AroundJ (P : Params) (g : Heap) (x : Addr) (all : List Addr) (D : Addr) (n : Nat) (m : Str → Option Value) (news : List (Addr × Obj)) : Prop
  | mk : ∀ l0 l par dn, (n = l.length) → (all = l0 ++ l) → (UpR (fun a o => g.get? a = some o) P par l) → ((∀ z, m z = (fun y => if y = Str.ofString "above" then some par else if y = Str.ofString "found" then some (.ref D) else [(Str.ofString "item", Value.ref x)].lookup y) z)) → (news = [(D, listOf (l0.map Value.ref).toArray dn)]) → AroundJ P g x all D n m news

theorem around_ {prog : Program} {w : World} {A : Around} {s : Shared} {p : Program} {loose : List Str} {mean : ExcName → Option Value} {mg mb : Str → Option Value} {hB : Heap} {x : Addr} {par : Value} {n : Nd} {tops l : List Addr} (X : (hd.heap_39 w.params).In hB) (T : Top p loose mean mg mb hB) (st : hB.StaysIn s.heap) (hx : NodeR (fun a o => hB.get? a = some o) w.params par x n tops) (hup : UpR (fun a o => hB.get? a = some o) w.params par l) (hl : l.length ≤ 8)
    (hd : A.depth + 4 < recursionLimit) :
    Does prog w A [] (call (.ref 99) [.ref x]) s (fun r tl => ∃ D dn, r = .ref D ∧ tl = [(D, listOf (l.map Value.ref).toArray dn)]) := by
  intro Q E kk
  have hH : ∀ q ∈ ([] : List (Addr × Obj)), s.heap.get? q.1 = some q.2 ∧ hB.get? q.1 = none := fun _ h => nomatch h
  have hroom : A.depth < recursionLimit := by exact ar379 hd
  refine' enterF (binds := [(Str.ofString "item", .ref x)]) (rb := [(Str.ofString "item", .ref x)]) X T st hH hroom ?ho ?hcd ?hb ?hl ?hr ?_ ?c2 ?c3 ?c4 ?c5
  case ho => k_is
  case hcd => k_is
  case hb => exact BindsTo.of_eq rfl
  case hl => exact locs rfl
  case hr => exact rfl
  case c2 => exact rfl
  case c3 => exact rfl
  case c4 => exact rfl
  case c5 => decide
  intro g L' h₁ F1 N1 X1 T1 st1 up dn
  have hug := hup.mono (has' := fun a o => g.get? a = some o) fun a o e => st1 _ _ e
  obtain ⟨dx, kl, cl, tk, occ, en, kn, cn, h1, h2, h3, h4, h5⟩ := hx
  have hI : PySem.W.InstAt g x (instObj 88 dx) 88 (some (dictOf (nodeEs w.params tk n occ cl kl par) en)) := ⟨st1 _ _ h1, rfl, rfl, st1 _ _ h2⟩
  have hha := hup.handed
  k_with "exec While Compare" => (refine stop_here ?_)
  try k_fold
  k_steps
  refine ⟨?_⟩
  rename Fr g L' _ _ => F6
  rename News g L' _ _ => N6
  k_with_none
  refine While_inv (AroundJ w.params g x l _) F6 N6 ⟨[], l, par, 0, rfl, rfl, hug, fun _ => rfl, rfl⟩ ?_
  rintro n m₁ news₁ h2' tk2 F7 N7 ⟨l0, l2, par2, dn2, rfl, rfl, hu2, hm, rfl⟩
  have em := funext hm
  subst em
  have hha2 := hu2.handed
  have hsz : l0.length < 2 ^ 24 := by rw [List.length_append] at hl; omega
  clear F6 N6 hha hI
  cases l2 with
  | nil =>
    have : par2 = .none := hu2
    subst this
    try k_fold
    k_steps
    rename Fr g L' _ _ => F8
    rename News g L' _ _ => N8
    refine kk _ _ _ _ (leaveFresh F8 N8 up).1 (leaveFresh F8 N8 up).2 ⟨_, dn2, rfl, by rw [List.append_nil]⟩
  | cons a l3 =>
    obtain ⟨rfl, na, topsa, para, ha, _, hua⟩ := hu2
    have hha3 := hua.handed
    obtain ⟨da, kla, cla, tka, occa, ena, kna, cna, a1, a2, a3, a4, a5⟩ := ha
    have hIa : PySem.W.InstAt g a (instObj 88 da) 88 (some (dictOf (nodeEs w.params tka na occa cla kla para) ena)) := ⟨a1, rfl, rfl, a2⟩
    try k_fold
    k_steps
    rename Fr g L' _ _ => F8
    rename News g L' _ _ => N8
    refine WhileStep.intro F8 N8 (Nat.lt_succ_self _) ⟨l0 ++ [a], l3, para, dn2 + 1, rfl, by simp, hua, fun z => ?_, by simp⟩
    by_cases hz : z = Str.ofString "above"
    · simp only [if_pos hz]
    · simp only [if_neg hz]
end
section
-- E3
open PySem.Spec
theorem fillE3 : ∀ P : Params, (hd.heap_39 P) = hd.heap_39 P ∧ PySem.Challenge.rw_og0075_01 = PySem.Challenge.rw_og0075_01 := by
  k_fill
  intro P; exact ⟨rfl, rfl⟩
local macro_rules | `(tactic| walk_at $s:str) => `(tactic| k_extra $s)
noncomputable abbrev lamPs : Arguments := { posonlyargs := [], args := [{ arg := Str.ofString "one", annotation := none, pos := { line := 68, col := 33, endLine := 68, endCol := 36 } }], vararg := none, kwonlyargs := [], kw_defaults := [], kwarg := none, defaults := [] }
noncomputable abbrev lamBody : Expr := ((Expr.Name (Str.ofString "one") { line := 68, col := 38, endLine := 68, endCol := 41 }).Attribute (Str.ofString "usage") { line := 68, col := 38, endLine := 68, endCol := 47 })
noncomputable abbrev lamSc : Scope := { kind := ScopeKind.function, names := [(Str.ofString "one", NameKind.local)], isGenerator := false, isCoroutine := false }
noncomputable abbrev lamQ : Str := Str.ofString "usage_of" ++ ".<locals>." ++ Str.ofString "<lambda>"
noncomputable abbrev lamObj (pm : Value) (c' : Addr) (ctv : Value) : Obj := kla_obj (Str.ofString "<lambda>") lamQ lamPs lamBody lamSc [] pm c' ctv
/-- a code object of the lambda -/
noncomputable def CodeOk (oc : Obj) : Prop := ∃ vs t, oc.data = .fields vs ∧ vs[1]? = some (.str lamQ t)

theorem lam_call {prog : Program} {w : World} {A : Around} {s : Shared} {E : Value → Shared → Prop} {Q : Value → Shared → Prop} {h₀ : Heap} {L : Addr} {m : Str → Option Value} {p : Program} {loose : List Str} {mean : ExcName → Option Value} {mg mb : Str → Option Value} {led : List (Addr × Obj)} {f c' : Addr} {oc : Obj} {pm ctv par : Value} {y : Addr} {n : Nd} {tops : List Addr}
    (F : Fr h₀ L s.heap m) (X : (hd.heap_39 w.params).In h₀) (T : Top p loose mean mg mb h₀) (N : News h₀ L s.heap led) (h1 : (f, lamObj pm c' ctv) ∈ led) (h2 : (c', oc) ∈ led) (h3 : CodeOk oc) (hy : NodeR (fun a o => h₀.get? a = some o) w.params par y n tops) (hroom : A.depth < recursionLimit)
    (k : ∀ h' tk' t, Fr h₀ L h' m → News h₀ L h' led → Q (.str n.us t) { s with heap := h', toks := tk' }) :
    wpAny (model prog w) A (call (.ref f) [.ref y]) Q E s := by
  obtain ⟨vs, t, hd, hq⟩ := h3
  refine wpAny_call (kla_callFunE hroom (N _ h1).1 rfl rfl rfl rfl ⟨c', oc, vs, t, rfl, (N _ h2).1, hd, hq⟩ ?_)
  rw [show bindArgs (kla_fn (Str.ofString "<lambda>") lamQ lamPs lamBody lamSc [] pm (.ref c') ctv) ⟨[.ref y], []⟩ = pure [(Str.ofString "one", Value.ref y)] from rfl]
  refine wpAny_pure (wpAny_newFunctionEnv (by show ∀ x ∈ lamSc.names, _; decide) (by exact locs rfl) (fun h₁ hns hsb => ⟨((T.nolimit).keeps F.keep).fresh _ hsb, ?_⟩) rfl)
  have hk₁ : ∀ b o, s.heap.get? b = some o → h₁.get? b = some o := fun b o e => hsb.extBut b o (Nat.ne_of_lt (Heap.lt_size e)) (Heap.get?_push_of_some _ e)
  have F1 : Fr s.heap s.heap.objs.size h₁ (fun z => [(Str.ofString "one", Value.ref y)].lookup z) := ⟨hns, hk₁, Nat.le_refl _⟩
  have N1 : News s.heap s.heap.objs.size h₁ [] := fun _ h => nomatch h
  have X1 := X.keeps F.keep
  have T1 := T.keeps F.keep
  obtain ⟨dx, kl, cl, tk, occ, en, kn, cn, a1, a2, a3, a4, a5⟩ := hy
  have hI : PySem.W.InstAt s.heap y (instObj 88 dx) 88 (some (dictOf (nodeEs w.params tk n occ cl kl par) en)) := ⟨F.keep _ _ a1, rfl, rfl, F.keep _ _ a2⟩
  refine kla_codeExpr ?_
  show wpAny _ _ (eval lamBody (envOf lamQ lamSc s.heap.objs.size f (.ref c'))) _ _ _
  try k_fold
  k_steps
  exact k _ _ _ ⟨F.ns.at' fun o e => hk₁ _ o e, fun b o e => hk₁ b o (F.keep b o e), F.above⟩ fun q hq => ⟨hk₁ _ _ (N q hq).1, (N q hq).2⟩

local macro_rules | `(tactic| walk_at "call ref") => `(tactic| (k_here; k_dflt (refine' lam_call ?F ?X ?T ?N ?h1 ?h2 ?h3 ?hy ?hr ?_; (case F => k_asm); (case X => k_asm); (case T => k_asm); (case N => k_asm); (case h1 => k_mem); (case h2 => k_mem); (case h3 => assumption); (case hy => assumption); (case hr => ((try simp only [depth_under_make, depth_deeper]); omega)); k_whole; intro h' tk' t' F' N'; (try k_sweep); (try k_fold))))
local macro_rules | `(tactic| walk_at "callWith ref") => `(tactic| (k_here; k_dflt (refine' callWith_F ?k1 ?_; (case k1 => exact FnAt.of (by k_asm) (by k_mem)); k_whole)))
local macro_rules | `(tactic| walk_at $s:str) => `(tactic| k_extra $s)
noncomputable def ToldUpI (n : Nd) (x f : Addr) (led : List (Addr × Obj)) (i : Nat) (m : Str → Option Value) (news : List (Addr × Obj)) : Prop :=
  news = led ∧ (∀ z, z ≠ Str.ofString "one" → m z = [(Str.ofString "read", Value.ref f), (Str.ofString "item", Value.ref x)].lookup z) ∧ (0 < i → n.us = Str.ofString "")
/-- told_up over the lambda -/
theorem toldup_ {prog : Program} {w : World} {A : Around} {s : Shared} {p : Program} {loose : List Str} {mean : ExcName → Option Value} {mg mb : Str → Option Value} {hB : Heap} {x f c' : Addr} {oc : Obj} {pm ctv par : Value} {n : Nd} {tops l : List Addr} (X : (hd.heap_39 w.params).In hB) (T : Top p loose mean mg mb hB) (st : hB.StaysIn s.heap) (hx : NodeR (fun a o => hB.get? a = some o) w.params par x n tops) (hup : UpR (fun a o => hB.get? a = some o) w.params par l) (hl : l.length ≤ 8)
    (hd : A.depth + 6 < recursionLimit) (hh : A.handled = none) (h3 : CodeOk oc)
    (hH : ∀ q ∈ [(f, lamObj pm c' ctv), (c', oc)], s.heap.get? q.1 = some q.2 ∧ hB.get? q.1 = none) :
    Does prog w A [f, c'] (call (.ref 111) [.ref x, .ref f]) s (fun r tl => tl = [(f, lamObj pm c' ctv), (c', oc)] ∧ ∃ t, r = .str n.us t) := by
  intro Q E kk
  have hroom : A.depth < recursionLimit := by exact ar296 hd
  refine' enterF (binds := [(Str.ofString "item", .ref x), (Str.ofString "read", .ref f)]) (rb := [(Str.ofString "read", .ref f), (Str.ofString "item", .ref x)]) X T st hH hroom ?ho ?hcd ?hb ?hl ?hr ?_ ?c2 ?c3 ?c4 ?c5
  case ho => k_is
  case hcd => k_is
  case hb => exact BindsTo.of_eq rfl
  case hl => exact locs rfl
  case hr => exact rfl
  case c2 => exact rfl
  case c3 => exact rfl
  case c4 => exact rfl
  case c5 => decide
  intro g L' h₁ F1 N1 X1 T1 st1 up dn
  k_with "exec For Name BinOp cons nil" => (refine stop_here ?_)
  try k_fold
  k_steps
  refine ⟨?_⟩
  refine For_invV g rfl rfl ?_
  k_with_none
  k_with "call ref" => ((with_reducible show wpAny _ _ (call (Value.ref 99) _ _) _ _ _); refine stop_here ?_)
  try k_fold
  k_steps
  refine ⟨?_⟩
  rename Fr g L' _ _ => F6
  rename News g L' _ _ => N6
  k_dflt (refine Does.use (ws := []) (rest := _) (around_ X1 T1 (fun b o e => F6.keep b o e) (hx.mono st1) (hup.mono st1) hl ?_) F6 N6 (fun _ h => nomatch h) (fun _ _ h => nomatch h) ?_)
  · show A.depth + 1 + 4 < recursionLimit; exact ar391 hd
  rintro r7 h7 tk7 tl7 F7 N7 a7 ⟨D7, dn7, rfl, rfl⟩
  k_with_none
  k_with "pyIter ref" => (refine stop_here ?_)
  dsimp only [List.cons_append, List.nil_append] at N7
  clear F6 N6
  k_steps
  refine ⟨?_⟩
  rename Fr g L' _ _ => F8
  rename News g L' _ _ => N8
  clear F7 N7
  k_with_none
  with_unfolding_all refine for_listN (vs := Value.ref x :: l.map Value.ref) (dn := 0) (news := [(f, lamObj pm c' ctv), (c', oc)]) (ToldUpI n x f [(f, lamObj pm c' ctv), (c', oc)]) hh F8 (News.sub N8 ?_) ⟨rfl, fun _ _ => rfl, fun h => absurd h (Nat.lt_irrefl _)⟩ ?_ ?_
  · intro q hq
    simp only [List.mem_cons, List.not_mem_nil, or_false] at hq ⊢
    rcases hq with h | h | h
    · exact .inl h
    · exact .inr (.inr (.inr (.inl h)))
    · exact .inr (.inr (.inr (.inr h)))
  · rintro i v m₁ news₁ h9 tk9 J oJ hv hDJ hJ ⟨rfl, hm, hus⟩ hoff F9 N9
    have hnode : ∃ y ny topsy pary, v = .ref y ∧ NodeR (fun a o => g.get? a = some o) w.params pary y ny topsy ∧ ny.us = (if i = 0 then n.us else Str.ofString "") := by
      cases i with
      | zero => exact ⟨x, n, tops, par, by simpa using hv.symm, hx.mono st1, rfl⟩
      | succ i =>
        have hv' : (l.map Value.ref)[i]? = some v := by simpa using hv
        rw [List.getElem?_map] at hv'
        obtain ⟨y, hy, rfl⟩ := Option.map_eq_some_iff.mp hv'
        obtain ⟨ny, topsy, pary, z1, z2⟩ := hup.at hy
        exact ⟨y, ny, topsy, pary, rfl, z1.mono st1, by rw [if_neg (Nat.succ_ne_zero _)]; exact z2⟩
    obtain ⟨y, ny, topsy, pary, rfl, hny, hnus⟩ := hnode
    have em : (fun z => if z = Str.ofString "one" then some (Value.ref y) else m₁ z) = fun z => if z = Str.ofString "one" then some (Value.ref y) else [(Str.ofString "read", Value.ref f), (Str.ofString "item", Value.ref x)].lookup z := by
      funext z
      by_cases hz : z = Str.ofString "one"
      · simp only [if_pos hz]
      · simp only [if_neg hz]; exact hm z hz
    rw [em] at F9
    clear F8 N8 em
    change Fr g L' _ _ at F9
    change News g L' _ _ at N9
    try k_fold
    k_steps
    · rename (ny.us != Str.ofString "") = true => hne
      rename Fr g L' _ _ => F10
      rename News g L' _ _ => N10
      have hi : i = 0 := by
        by_cases h0 : i = 0
        · exact h0
        · rw [if_neg h0] at hnus; rw [hnus] at hne; simp at hne
      rw [if_pos hi] at hnus
      rw [hnus]
      have N11 := News.sub (l' := [(f, lamObj pm c' ctv), (c', oc)]) N10 fun q hq => .tail _ (.tail _ hq)
      exact kk _ _ _ _ (leaveFresh F10 N11 up).1 (leaveFresh F10 N11 up).2 ⟨rfl, _, rfl⟩
    · rename (ny.us != Str.ofString "") = false => hne
      rename Fr g L' _ _ => F10
      rename News g L' _ _ => N10
      refine ⟨⟨_, _, _, _, rfl, F10, N10, hoff, rfl, fun z hz => by simp only [if_neg hz], fun _ => ?_⟩⟩
      have hne : ny.us = Str.ofString "" := by simpa using hne
      by_cases h0 : i = 0
      · rw [if_pos h0] at hnus; rw [← hnus]; exact hne
      · exact hus (Nat.pos_of_ne_zero h0)
  · rintro m₁ news₁ h9 tk9 ⟨rfl, hm, hus⟩ F9 N9
    have hus' := hus (Nat.succ_pos _)
    rw [hus'] at kk
    clear F8 N8
    try k_fold
    k_steps
    rename Fr g L' _ _ => F10
    rename News g L' _ _ => N10
    have N11 := News.sub (l' := [(f, lamObj pm c' ctv), (c', oc)]) N10 fun q hq => .tail _ hq
    exact kk _ _ _ _ (leaveFresh F10 N11 up).1 (leaveFresh F10 N11 up).2 ⟨rfl, _, rfl⟩
end
section
-- E4
open PySem.Spec
theorem fillE4 : ∀ P : Params, (hd.heap_39 P) = hd.heap_39 P ∧ PySem.Challenge.rw_og0075_01 = PySem.Challenge.rw_og0075_01 := by
  k_fill
  intro P; exact ⟨rfl, rfl⟩
/-- the code table of usage_of: empty, or with the lambda's code in it -/
noncomputable def Tab (tb : List (Addr × Obj)) : Prop := tb = [(113, tabObj #[])] ∨ ∃ c' oc, tb = [(113, tabObj #[rawInt 68, rawInt 26, .ref c']), (c', oc)] ∧ CodeOk oc ∧ c' ≠ 113

/-- the table later: still one, and no address is lost -/
noncomputable def TabS (tb tb' : List (Addr × Obj)) : Prop := Tab tb' ∧ ∀ q ∈ tb, ∃ q' ∈ tb', q'.1 = q.1
theorem TabS.refl {tb : List (Addr × Obj)} (h : Tab tb) : TabS tb tb := ⟨h, fun q hq => ⟨q, hq, rfl⟩⟩
theorem TabS.trans {a b c : List (Addr × Obj)} (h : TabS a b) (k : TabS b c) : TabS a c := ⟨k.1, fun q hq => by
  obtain ⟨q', h1, h2⟩ := h.2 q hq
  obtain ⟨q'', h3, h4⟩ := k.2 q' h1
  exact ⟨q'', h3, h4.trans h2⟩⟩
theorem tab_fields {tb : List (Addr × Obj)} (h : Tab tb) : ∀ q ∈ tb, ∃ vs, q.2.data = .fields vs := by
  intro q hq
  rcases h with rfl | ⟨c', oc, rfl, ⟨vs, t, h1, h2⟩, h3⟩
  · rw [List.mem_singleton.mp hq]; exact ⟨_, rfl⟩
  · rcases List.mem_cons.mp hq with h | h
    · rw [h]; exact ⟨_, rfl⟩
    · rw [List.mem_singleton.mp h]; exact ⟨_, h1⟩
/-- what is a sequence is not of the table -/
theorem tab_off {tb : List (Addr × Obj)} {g h : Heap} {L D : Addr} {o : Obj} {its : Array Value} {dn : Nat} {led : List (Addr × Obj)} (ht : Tab tb) (N : News g L h led) (h1 : (D, o) ∈ led) (hd : o.data = .seq its dn) (h2 : ∀ q ∈ tb, q ∈ led) : ∀ q ∈ tb, q.1 ≠ D := by
  intro q hq e
  obtain ⟨vs, hv⟩ := tab_fields ht q hq
  have a := (N _ (h2 q hq)).1
  have b := (N _ h1).1
  rw [e, b] at a
  have := Option.some.inj a
  rw [← this, hd] at hv
  cases hv
theorem tabS_off {tb0 tb : List (Addr × Obj)} {g h : Heap} {L D : Addr} {o : Obj} {its : Array Value} {dn : Nat} {led : List (Addr × Obj)} (ht : TabS tb0 tb) (N : News g L h led) (h1 : (D, o) ∈ led) (hd : o.data = .seq its dn) (h2 : ∀ q ∈ tb, q ∈ led) : D ∉ tb0.map (·.1) := by
  intro hm
  obtain ⟨q, hq, e⟩ := List.mem_map.mp hm
  obtain ⟨q', h3, h4⟩ := ht.2 q hq
  exact tab_off ht.1 N h1 hd h2 q' h3 (h4.trans e)

theorem lam_make {prog : Program} {w : World} {A : Around} {s : Shared} {E : Value → Shared → Prop} {Q : Value → Shared → Prop} {h₀ : Heap} {L : Addr} {m : Str → Option Value} {p : Program} {loose : List Str} {mean : ExcName → Option Value} {mg mb : Str → Option Value} {tb : List (Addr × Obj)} {cs : Scope}
    (F : Fr h₀ L s.heap m) (N : News h₀ L s.heap tb) (T : Top p loose mean mg mb h₀) (C : CodeHd h₀ 117 113) (ht : Tab tb)
    (k : ∀ f c' oc pm ctv h' tk', Fr h₀ L h' m → News h₀ L h' [(f, lamObj pm c' ctv), (c', oc), (113, tabObj #[rawInt 68, rawInt 26, .ref c'])] → CodeOk oc → c' ≠ 113 → f ≠ c' → f ≠ 113 → (∀ q ∈ tb, q.1 = 113 ∨ q.1 = c') → Q (.ref f) { s with heap := h', toks := tk' }) :
    wpAny (model prog w) A (eval (.Lambda lamPs lamBody lamSc { line := 68, col := 26, endLine := 68, endCol := 47 }) (envOf (Str.ofString "usage_of") cs L 118 (.ref 117))) Q E s := by
  refine kla_eval rfl ?_
  rcases ht with rfl | ⟨c', oc, rfl, ho, hc⟩
  · k_dflt (refine' kla_nest F N T C ?cd ?U ?t ?n ?cl ?_)
    case cd => rfl
    case U => k_updF
    case t => kn_triples
    case n => kn_among
    case cl => exact rfl
    intro f' c' oc' vs' t' ct' h' tk' F' N' d1' d2' l1 l2
    have l1 : @LT.lt Nat _ 113 c' := l1 _ (.head _)
    have l2 : @LT.lt Nat _ c' f' := l2
    exact k f' c' oc' _ ct' h' tk' F' N' ⟨vs', t', d1', d2'⟩ (fun e => by have e' : @Eq Nat c' 113 := e; exact ar392 l1 e') (fun e => by have e' : @Eq Nat f' c' := e; exact ar308 l2 e') (fun e => by have e' : @Eq Nat f' 113 := e; exact ar393 l1 l2 e') (fun q hq => .inl (by rw [List.mem_singleton.mp hq]))
  · k_dflt (refine' kla_hit F N T C ?cd (.head _) ?t ?n ?cl ?_)
    case cd => rfl
    case t => kn_triples
    case n => kn_hit
    case cl => exact rfl
    intro f' ct' h' tk' F' N' l1
    have l2 : @LT.lt Nat _ 113 f' := l1 _ (.head _)
    have l3 : @LT.lt Nat _ c' f' := l1 _ (.tail _ (.head _))
    refine k f' c' oc ((mg "__name__").getD .none) ct' h' tk' F' (News.sub N' fun q hq => ?_) ho hc (fun e => by have e' : @Eq Nat f' c' := e; exact ar308 l3 e') (fun e => by have e' : @Eq Nat f' 113 := e; exact ar392 l2 e') (fun q hq => by
      rcases List.mem_cons.mp hq with h | h
      · exact .inl (by rw [h])
      · exact .inr (by rw [List.mem_singleton.mp h]))
    rcases List.mem_cons.mp hq with h | hq
    · rw [h]; exact .head _
    · rcases List.mem_cons.mp hq with h | hq
      · rw [h]; exact .tail _ (.tail _ (.head _))
      · rw [List.mem_singleton.mp hq]; exact .tail _ (.head _)

theorem usage_ {prog : Program} {w : World} {A : Around} {s : Shared} {p : Program} {loose : List Str} {mean : ExcName → Option Value} {mg mb : Str → Option Value} {hB : Heap} {x : Addr} {par : Value} {n : Nd} {tops l : List Addr} {tb : List (Addr × Obj)} (X : (hd.heap_39 w.params).In hB) (T : Top p loose mean mg mb hB) (st : hB.StaysIn s.heap) (hx : NodeR (fun a o => hB.get? a = some o) w.params par x n tops) (hup : UpR (fun a o => hB.get? a = some o) w.params par l) (hl : l.length ≤ 8)
    (C : CodeHd hB 117 113) 
    (hd : A.depth + 8 < recursionLimit) (hh : A.handled = none)
    (ht : Tab tb) (hH : ∀ q ∈ tb, s.heap.get? q.1 = some q.2 ∧ hB.get? q.1 = none) :
    Does prog w A (tb.map (·.1)) (call (.ref 118) [.ref x]) s (fun r tl => TabS tb tl ∧ ∃ t, r = .str (if n.us = Str.ofString "" then Str.ofString "display" else n.us) t) := by
  intro Q E kk
  have hroom : A.depth < recursionLimit := by exact ar382 hd
  refine' enterF (binds := [(Str.ofString "item", .ref x)]) (rb := [(Str.ofString "item", .ref x)]) X T st hH hroom ?ho ?hcd ?hb ?hl ?hr ?_ ?c2 ?c3 ?c4 ?c5
  case ho => k_is
  case hcd => k_is
  case hb => exact BindsTo.of_eq rfl
  case hl => exact locs rfl
  case hr => exact rfl
  case c2 => exact rfl
  case c3 => exact rfl
  case c4 => exact rfl
  case c5 => decide
  intro g L' h₁ F1 N1 X1 T1 st1 up dn
  k_with "eval Lambda" => (refine stop_here ?_)
  try k_fold
  k_steps
  refine ⟨?_⟩
  rename Fr g L' _ _ => F6
  rename News g L' _ _ => N6
  k_dflt (refine lam_make F6 N6 T1 (C.keeps st1) ht ?_)
  intro f c' oc pm ctv h7 tk7 F7 N7 ho e1 e2 e3 e4
  clear F6 N6
  k_with_none
  k_with "callWith ref" => (refine' callWith_F ?k1 ?_; (case k1 => exact FnAt.of (by k_asm) (by k_mem)); k_whole)
  k_with "call ref" => ((with_reducible show wpAny _ _ (call (Value.ref 111) _ _) _ _ _); refine stop_here ?_)
  k_steps
  refine ⟨?_⟩
  rename Fr g L' _ _ => F8
  rename News g L' _ _ => N8
  k_dflt (refine Does.use (ws := [(f, lamObj pm c' ctv), (c', oc)]) (rest := [(113, tabObj #[rawInt 68, rawInt 26, Value.ref c'])]) (toldup_ (c' := c') (pm := pm) (ctv := ctv) X1 T1 (fun b o e => F8.keep b o e) (hx.mono st1) (hup.mono st1) hl ?_ hh ho ?_) F8 N8 ?_ ?_ ?_)
  · show A.depth + 1 + 6 < recursionLimit; exact ar394 hd
  · intro q hq
    rcases List.mem_cons.mp hq with h | hq
    · rw [h]; exact ⟨(N8 _ (.head _)).1, (N8 _ (.head _)).2.2⟩
    · rw [List.mem_singleton.mp hq]; exact ⟨(N8 _ (.tail _ (.head _))).1, (N8 _ (.tail _ (.head _))).2.2⟩
  · intro a ha
    rcases List.mem_cons.mp ha with h | hq
    · rw [h]; exact ⟨_, .head _⟩
    · rw [List.mem_singleton.mp hq]; exact ⟨_, .tail _ (.head _)⟩
  · intro q hq hm
    rw [List.mem_singleton.mp hq] at hm
    rcases List.mem_cons.mp hm with h | hm
    · exact e3 h.symm
    · exact e1 (List.mem_singleton.mp hm).symm
  rintro r9 h9 tk9 tl9 F9 N9 a9 ⟨rfl, t9, rfl⟩
  clear F8 N8
  have fin : ∀ (m' : Str → Option Value) (h' : Heap), Fr g L' h' m' → News g L' h' ([(f, lamObj pm c' ctv), (c', oc)] ++ [(113, tabObj #[rawInt 68, rawInt 26, Value.ref c'])]) → (∀ (b : Addr) (o : Obj), b ∉ tb.map (·.1) → s.heap.get? b = some o → h'.get? b = some o) ∧ Fresh s.heap (tb.map (·.1)) h' [(113, tabObj #[rawInt 68, rawInt 26, Value.ref c']), (c', oc)] := by
    intro m' h' F' N'
    have N2 : News g L' h' [(113, tabObj #[rawInt 68, rawInt 26, Value.ref c']), (c', oc)] := News.sub N' fun q hq => by
      rcases List.mem_cons.mp hq with h | hq
      · rw [h]; exact .tail _ (.tail _ (.head _))
      · rw [List.mem_singleton.mp hq]; exact .tail _ (.head _)
    exact leaveFresh F' N2 up
  have htab : TabS tb [(113, tabObj #[rawInt 68, rawInt 26, Value.ref c']), (c', oc)] := ⟨.inr ⟨c', oc, rfl, ho, e1⟩, fun q hq => by
    rcases e4 q hq with h | h
    · exact ⟨_, .head _, h.symm⟩
    · exact ⟨_, .tail _ (.head _), h.symm⟩⟩
  k_with_none
  try k_fold
  k_steps
  · rename (n.us != Str.ofString "") = true => hne
    rename Fr g L' _ _ => F10
    rename News g L' _ _ => N10
    have hne : ¬ n.us = Str.ofString "" := by simpa using hne
    rw [if_neg hne] at kk
    exact kk _ _ _ _ (fin _ _ F10 N10).1 (fin _ _ F10 N10).2 ⟨htab, _, rfl⟩
  · rename (n.us != Str.ofString "") = false => hne
    rename Fr g L' _ _ => F10
    rename News g L' _ _ => N10
    have hne : n.us = Str.ofString "" := by simpa using hne
    rw [if_pos hne] at kk
    exact kk _ _ _ _ (fin _ _ F10 N10).1 (fin _ _ F10 N10).2 ⟨htab, _, rfl⟩
end
section
-- E5
open PySem.Spec
theorem fillE5 : ∀ P : Params, (hd.heap_39 P) = hd.heap_39 P ∧ PySem.Challenge.rw_og0075_01 = PySem.Challenge.rw_og0075_01 := by
  k_fill
  intro P; exact ⟨rfl, rfl⟩
noncomputable def Nd.can (n : Nd) : Bool := decide (n.nm ≠ Str.ofString "FILLER" ∧ n.lvl ≠ 66 ∧ n.occ = false ∧ n.rd = Str.ofString "" ∧ n.us ≠ Str.ofString "index")

theorem can_ {prog : Program} {w : World} {A : Around} {s : Shared} {p : Program} {loose : List Str} {mean : ExcName → Option Value} {mg mb : Str → Option Value} {hB : Heap} {x : Addr} {par : Value} {n : Nd} {tops l : List Addr} {tb : List (Addr × Obj)} (X : (hd.heap_39 w.params).In hB) (T : Top p loose mean mg mb hB) (st : hB.StaysIn s.heap) (hx : NodeR (fun a o => hB.get? a = some o) w.params par x n tops) (hup : UpR (fun a o => hB.get? a = some o) w.params par l) (hl : l.length ≤ 8)
    (C : CodeHd hB 117 113) 
    (hd : A.depth + 10 < recursionLimit) (hh : A.handled = none)
    (ht : Tab tb) (hH : ∀ q ∈ tb, s.heap.get? q.1 = some q.2 ∧ hB.get? q.1 = none) :
    Does prog w A (tb.map (·.1)) (call (.ref 125) [.ref x]) s (fun r tl => TabS tb tl ∧ r = .bool n.can) := by
  intro Q E kk
  have hroom : A.depth < recursionLimit := by exact ar395 hd
  refine' enterF (binds := [(Str.ofString "item", .ref x)]) (rb := [(Str.ofString "item", .ref x)]) X T st hH hroom ?ho ?hcd ?hb ?hl ?hr ?_ ?c2 ?c3 ?c4 ?c5
  case ho => k_is
  case hcd => k_is
  case hb => exact BindsTo.of_eq rfl
  case hl => exact locs rfl
  case hr => exact rfl
  case c2 => exact rfl
  case c3 => exact rfl
  case c4 => exact rfl
  case c5 => decide
  intro g L' h₁ F1 N1 X1 T1 st1 up dn
  have hx' := hx
  obtain ⟨dx, kl, cl, tk, occ, en, kn, cn, h1, h2, h3, h4, h5⟩ := hx
  have hI : PySem.W.InstAt g x (instObj 88 dx) 88 (some (dictOf (nodeEs w.params tk n occ cl kl par) en)) := ⟨st1 _ _ h1, rfl, rfl, st1 _ _ h2⟩
  k_with "call ref" => ((with_reducible show wpAny _ _ (call (Value.ref 118) _ _) _ _ _); refine stop_here ?_)
  cases e : n.occ with
  | false =>
    rw [e] at h5
    have h5' : occ = .none := h5
    subst h5'
    try k_fold
    k_steps
    · rename (n.nm == Str.ofString "FILLER") = true => z1
      have hc : n.can = false := by unfold Nd.can; simp only [beq_iff_eq] at z1; simp [z1]
      rw [hc] at kk
      exact kk _ _ _ _ (leaveFresh (by assumption) N1 up).1 (leaveFresh (by assumption) N1 up).2 ⟨.refl ht, rfl⟩
    · rename n.lvl = 66 => z1
      have hc : n.can = false := by unfold Nd.can; simp [z1]
      rw [hc] at kk
      exact kk _ _ _ _ (leaveFresh (by assumption) N1 up).1 (leaveFresh (by assumption) N1 up).2 ⟨.refl ht, rfl⟩
    · rename (n.nm == Str.ofString "FILLER") = false => z1
      rename n.lvl ≠ 66 => z2
      rename (n.rd == Str.ofString "") = true => z3
      have hc : n.can = decide (n.us ≠ Str.ofString "index") := by
        unfold Nd.can
        simp only [beq_iff_eq, beq_eq_false_iff_ne] at z1 z3
        simp [z1, z2, z3, e]
      rw [hc] at kk
      refine ⟨?_⟩
      rename Fr g L' _ _ => F6
      rename News g L' _ _ => N6
      k_dflt (refine Does.use (ws := tb) (rest := []) (usage_ X1 T1 (fun b o e => F6.keep b o e) (hx'.mono st1) (hup.mono st1) hl (C.keeps st1) ?_ hh ht (fun q hq => ⟨(N6 q hq).1, (N6 q hq).2.2⟩)) F6 (News.sub N6 fun q hq => by rwa [List.append_nil] at hq) ?_ (fun _ h => nomatch h) ?_)
      · show A.depth + 1 + 8 < recursionLimit; exact ar396 hd
      · intro a ha
        obtain ⟨q, hq, rfl⟩ := List.mem_map.mp ha
        exact ⟨q.2, hq⟩
      rintro r9 h9 tk9 tl9 F9 N9 a9 ⟨ht9, t9, rfl⟩
      rw [List.append_nil] at N9
      clear F6 N6
      k_with_none
      try k_fold
      k_steps
      rename Fr g L' _ _ => F10
      rename News g L' _ _ => N10
      have hb : ((if n.us = Str.ofString "" then Str.ofString "display" else n.us) != Str.ofString "index") = decide (n.us ≠ Str.ofString "index") := by
        by_cases h0 : n.us = Str.ofString ""
        · rw [if_pos h0, h0]; decide +kernel
        · rw [if_neg h0]; rw [bne, decide_not]; congr 1
      rw [← hb] at kk
      obtain ⟨z5, z6⟩ := leaveFresh F10 N10 up
      exact kk _ _ _ _ z5 z6 ⟨ht9, rfl⟩
    · rename (n.rd == Str.ofString "") = false => z1
      have hc : n.can = false := by unfold Nd.can; simp only [beq_eq_false_iff_ne] at z1; simp [z1]
      rw [z1]
      rw [hc] at kk
      exact kk _ _ _ _ (leaveFresh (by assumption) N1 up).1 (leaveFresh (by assumption) N1 up).2 ⟨.refl ht, rfl⟩
  | true =>
    rw [e] at h5
    obtain ⟨o, od, tko, eno, rfl, o1, o2⟩ := h5
    have hc : n.can = false := by unfold Nd.can; simp [e]
    rw [hc] at kk
    try k_fold
    k_steps
    all_goals exact kk _ _ _ _ (leaveFresh (by assumption) N1 up).1 (leaveFresh (by assumption) N1 up).2 ⟨.refl ht, rfl⟩
end
section
-- E6
open PySem.Spec
theorem fillE6 : ∀ P : Params, (hd.heap_39 P) = hd.heap_39 P ∧ PySem.Challenge.rw_og0075_01 = PySem.Challenge.rw_og0075_01 := by
  k_fill
  intro P; exact ⟨rfl, rfl⟩
noncomputable def G.nodes : G → List (Addr × Nd × G)
  | .nil => []
  | .cons x n k r => (x, n, k) :: r.nodes
theorem nodes_at : ∀ (g : G) (i : Nat), g.nodeAt i = g.nodes[i]?
  | .nil, i => by simp [G.nodeAt, G.nodes]
  | .cons x n k r, 0 => by simp [G.nodeAt, G.nodes]
  | .cons x n k r, i + 1 => by simpa [G.nodeAt, G.nodes] using nodes_at r i
theorem nodes_len : ∀ g : G, g.nodes.length = g.tops.length
  | .nil => rfl
  | .cons _ _ _ r => by show r.nodes.length + 1 = r.tops.length + 1; rw [nodes_len r]
noncomputable def G.named (g : G) : List (Addr × Nd × G) := g.nodes.filter fun q => q.2.1.can
noncomputable def NamedI (tb : List (Addr × Obj)) (k : G) (i : Nat) (acc : List Value) (news : List (Addr × Obj)) : Prop :=
  TabS tb news ∧ acc = ((k.nodes.take i).filter fun q => q.2.1.can).map fun q => Value.ref q.1
theorem namedI_len {tb : List (Addr × Obj)} {k : G} {i : Nat} {acc : List Value} {news : List (Addr × Obj)} (h : NamedI tb k i acc news) : acc.length ≤ k.tops.length := by
  rw [h.2, List.length_map, ← nodes_len]
  exact Nat.le_trans (List.length_filter_le _ _) (List.length_take_le' _ _)
theorem namedI_yes {tb : List (Addr × Obj)} {k : G} {i : Nat} {acc : List Value} {news news' : List (Addr × Obj)} {y : Addr} {n : Nd} {ks : G} (h : NamedI tb k i acc news) (e : k.nodes[i]? = some (y, n, ks)) (hc : n.can = true) (ht : TabS news news') : NamedI tb k (i + 1) (acc ++ [.ref y]) news' := by
  refine ⟨h.1.trans ht, ?_⟩
  rw [List.take_add_one, e, h.2]
  simp [hc]
theorem namedI_no {tb : List (Addr × Obj)} {k : G} {i : Nat} {acc : List Value} {news news' : List (Addr × Obj)} {y : Addr} {n : Nd} {ks : G} (h : NamedI tb k i acc news) (e : k.nodes[i]? = some (y, n, ks)) (hc : n.can = false) (ht : TabS news news') : NamedI tb k (i + 1) acc news' := by
  refine ⟨h.1.trans ht, ?_⟩
  rw [List.take_add_one, e, h.2]
  simp [hc]

theorem named_ {prog : Program} {w : World} {A : Around} {s : Shared} {p : Program} {loose : List Str} {mean : ExcName → Option Value} {mg mb : Str → Option Value} {hB : Heap} {x : Addr} {par : Value} {n : Nd} {k : G} {l : List Addr} {tb : List (Addr × Obj)} (X : (hd.heap_39 w.params).In hB) (T : Top p loose mean mg mb hB) (st : hB.StaysIn s.heap) (hx : NodeR (fun a o => hB.get? a = some o) w.params par x n k.tops) (hup : UpR (fun a o => hB.get? a = some o) w.params par l) (hl : l.length ≤ 7)
    (C : CodeHd hB 117 113) (hk : KidsR (fun a o => hB.get? a = some o) w.params (.ref x) k) (hus : k.tops ≠ [] → n.us = Str.ofString "") (hz : k.tops.length ≤ 2)
    (hd : A.depth + 12 < recursionLimit) (hh : A.handled = none)
    (ht : Tab tb) (hH : ∀ q ∈ tb, s.heap.get? q.1 = some q.2 ∧ hB.get? q.1 = none) :
    Does prog w A (tb.map (·.1)) (call (.ref 130) [.ref x]) s (fun r tl => ∃ D dn tb', r = .ref D ∧ tl = (D, listOf (k.named.map fun q => Value.ref q.1).toArray dn) :: tb' ∧ TabS tb tb') := by
  intro Q E kk
  have hroom : A.depth < recursionLimit := by exact ar397 hd
  refine' enterF (binds := [(Str.ofString "item", .ref x)]) (rb := [(Str.ofString "item", .ref x)]) X T st hH hroom ?ho ?hcd ?hb ?hl ?hr ?_ ?c2 ?c3 ?c4 ?c5
  case ho => k_is
  case hcd => k_is
  case hb => exact BindsTo.of_eq rfl
  case hl => exact locs rfl
  case hr => exact rfl
  case c2 => exact rfl
  case c3 => exact rfl
  case c4 => exact rfl
  case c5 => decide
  intro g L' h₁ F1 N1 X1 T1 st1 up dn
  have hx' := hx
  obtain ⟨dx, kl, cl, tk, occ, en, kn, cn, h1, h2, h3, h4, h5⟩ := hx
  have hI : PySem.W.InstAt g x (instObj 88 dx) 88 (some (dictOf (nodeEs w.params tk n occ cl kl par) en)) := ⟨st1 _ _ h1, rfl, rfl, st1 _ _ h2⟩
  k_with "pyIter ref" => (refine stop_here ?_)
  try k_fold
  k_steps
  refine ⟨?_⟩
  rename Fr g L' _ _ => F6
  rename News g L' _ _ => N6
  k_dflt (refine comp_srcH (vs := k.tops.map Value.ref) (NamedI tb k) hh F6 X1 T1 N6 ⟨_, st1 _ _ h4, rfl, kn, rfl⟩ (by decide) rfl ⟨.refl ht, rfl⟩ (fun i _ _ h => by rw [sizeLine_eq]; have := namedI_len h; exact ar384 hz this) ?_ ?_)
  · intro g2 C2 D2 J2 i v m₁ acc dn2 news₁ h7 tk7 o7 X7 T7 S7 up7 lt7 lj7 hv I7 a7 F7 N7
    obtain ⟨y, hy, rfl⟩ : ∃ y, k.tops[i]? = some y ∧ v = .ref y := by
      rw [List.getElem?_map] at hv
      cases hq : k.tops[i]? with
      | none => rw [hq] at hv; cases hv
      | some y => rw [hq] at hv; exact ⟨y, rfl, (Option.some.inj hv).symm⟩
    obtain ⟨ny, ky, hny⟩ := nodeAt_of_top hy
    have hny' := hny
    rw [nodes_at] at hny'
    have hnode := (nodeAt_kids hk hny).1
    have hne : k.tops ≠ [] := fun e => by rw [e] at hy; cases hy
    have hupy : UpR (fun a o => hB.get? a = some o) w.params (.ref x) (x :: l) := ⟨rfl, n, k.tops, par, hx', hus hne, hup⟩
    refine turn_name rfl rfl F7 N7 fun h8 F8 N8 => turn_if1 ?_
    clear F7 N7
    k_with "call ref" => ((with_reducible show wpAny _ _ (call (Value.ref 125) _ _) _ _ _); refine stop_here ?_)
    k_steps
    refine ⟨?_⟩
    rename Fr g2 C2 _ _ => F9
    rename News g2 C2 _ _ => N9
    have st9 : hB.StaysIn g2 := fun b o e => S7 b o (st1 b o e)
    k_dflt (refine Does.use (ws := news₁) (rest := [(D2, listOf acc.toArray dn2), (J2, o7)]) (can_ X7 T7 (fun b o e => F9.keep b o e) (hnode.mono st9) (hupy.mono st9) (by show l.length + 1 ≤ 8; exact ar398 hl) (C.keeps st9) ?_ hh I7.1.1 (fun q hq => ⟨(N9 q (.tail _ (.tail _ hq))).1, (N9 q (.tail _ (.tail _ hq))).2.2⟩)) F9 (News.sub N9 ?_) ?_ ?_ ?_)
    · show A.depth + 1 + 10 < recursionLimit; exact ar399 hd
    · intro q hq
      rcases List.mem_append.mp hq with h | h
      · exact .tail _ (.tail _ h)
      · rcases List.mem_cons.mp h with h | h
        · rw [h]; exact .head _
        · rw [List.mem_singleton.mp h]; exact .tail _ (.head _)
    · intro a ha
      obtain ⟨q, hq, rfl⟩ := List.mem_map.mp ha
      exact ⟨q.2, hq⟩
    · intro q hq hm
      obtain ⟨z, hz, e⟩ := List.mem_map.mp hm
      rcases List.mem_cons.mp hq with h | h
      · rw [h] at e; exact (a7 z hz).2 e
      · rw [List.mem_singleton.mp h] at e; exact (a7 z hz).1 e
    rintro r10 h10 tk10 tl10 F10 N10 a10 ⟨ht10, rfl⟩
    have N11 : News g2 C2 h10 ((D2, listOf acc.toArray dn2) :: (J2, o7) :: ([] ++ tl10)) := News.sub N10 fun q hq => by
      rcases List.mem_cons.mp hq with h | h
      · rw [h]; exact List.mem_append_right _ (.head _)
      · rcases List.mem_cons.mp h with h | h
        · rw [h]; exact List.mem_append_right _ (.tail _ (.head _))
        · exact List.mem_append_left _ h
    have a11 : ∀ q ∈ tl10, q.1 ≠ J2 ∧ q.1 ≠ D2 := fun q hq => by
      rcases a10 q hq with z | z
      · obtain ⟨z, hz, e⟩ := List.mem_map.mp z
        rw [← e]; exact a7 z hz
      · exact ⟨fun e => z _ (List.mem_append_right _ (.tail _ (.head _))) e.symm, fun e => z _ (List.mem_append_right _ (.head _)) e.symm⟩
    clear F9 N9 N10
    k_with_none
    cases hc : ny.can with
    | false =>
      try k_fold
      k_steps
      rename Fr g2 C2 _ _ => F12
      rename News g2 C2 _ _ => N12
      exact ⟨⟨_, _, _, tl10, rfl, F12, N12, a11, namedI_no I7 hny' hc ht10⟩⟩
    | true =>
      try k_fold
      k_steps
      rename Fr g2 C2 _ _ => F12
      rename News g2 C2 _ _ => N12
      exact ⟨⟨_, _, _, tl10, rfl, F12, N12, a11, namedI_yes I7 hny' hc ht10⟩⟩
  · intro h2'' J3 _ F10' lt' o3
    refine fin_eval ?_
    rintro D3 h10 tk10 acc dn3 news' hI10 F10 N10 lt10
    clear F10' F6 N6
    k_with_none
    try k_fold
    k_steps
    rename Fr g L' _ _ => F12
    rename News g L' _ _ => N12
    rw [List.nil_append] at N12
    have ea : acc = k.named.map fun q => Value.ref q.1 := by
      rw [hI10.2, List.length_map, ← nodes_len, List.take_length]; rfl
    subst ea
    obtain ⟨z5, z6⟩ := leaveFresh F12 N12 up
    exact kk _ _ _ _ z5 z6 ⟨D3, dn3, news', rfl, rfl, hI10.1⟩
end
section
-- F1
open PySem.Spec

noncomputable abbrev Pt := Addr × Nd × G
/-- the pairs that pairs_alike tells of two forests -/
noncomputable def alike : Nat → G → G → List (Addr × Addr)
  | 0, _, _ => []
  | d + 1, a, b => a.named.flatMap fun p => b.named.flatMap fun q => if q.2.1.nm ≠ p.2.1.nm then [] else if p.2.2.group = true ∧ q.2.2.group = true then alike d p.2.2 q.2.2 else [(p.1, q.1)]
noncomputable def cell (d : Nat) (p q : Pt) : List (Addr × Addr) := if q.2.1.nm ≠ p.2.1.nm then [] else if p.2.2.group = true ∧ q.2.2.group = true then alike (d - 1) p.2.2 q.2.2 else [(p.1, q.1)]
theorem alike_eq {d : Nat} {a b : G} (h : a.Bd d) : alike d a b = a.named.flatMap fun p => b.named.flatMap (cell d p) := by
  cases d with
  | zero =>
    cases a with
    | nil => rfl
    | cons _ _ _ _ => exact h.elim
  | succ d => rfl
theorem len_flatMap {α β : Type} {f : α → List β} {c : Nat} : ∀ {l : List α}, (∀ x ∈ l, (f x).length ≤ c) → (l.flatMap f).length ≤ l.length * c
  | [], _ => by simp
  | a :: l, h => by
    have h1 := h a (.head _)
    have h2 := len_flatMap (f := f) (c := c) (l := l) fun x hx => h x (.tail _ hx)
    rw [List.flatMap_cons, List.length_append, List.length_cons, Nat.succ_mul]
    exact ar400 h2 h1
theorem named_len (g : G) : g.named.length ≤ g.tops.length := by
  rw [← nodes_len]; exact List.length_filter_le _ _
theorem nodes_bd : ∀ {g : G} {d : Nat}, g.Bd (d + 1) → ∀ q ∈ g.nodes, q.2.2.tops.length ≤ 2 ∧ q.2.2.Bd d
  | .nil, _, _, q, hq => nomatch hq
  | .cons x n k r, d, h, q, hq => by
    rcases List.mem_cons.mp hq with e | e
    · rw [e]; exact ⟨h.1, h.2.1⟩
    · exact nodes_bd h.2.2 q e
theorem named_sub {g : G} {q : Pt} (h : q ∈ g.named) : q ∈ g.nodes := (List.mem_filter.mp h).1
theorem alike_len : ∀ {d : Nat} {a b : G}, a.Bd d → b.Bd d → a.tops.length ≤ 2 → b.tops.length ≤ 2 → (alike d a b).length ≤ 4 ^ d
  | 0, _, _, _, _, _, _ => Nat.zero_le _
  | d + 1, a, b, ha, hb, la, lb => by
    have h1 : ∀ p ∈ a.named, (b.named.flatMap (cell (d + 1) p)).length ≤ 2 * 4 ^ d := by
      intro p hp
      refine Nat.le_trans (len_flatMap (c := 4 ^ d) fun q hq => ?_) (Nat.mul_le_mul_right _ (Nat.le_trans (named_len _) lb))
      unfold cell
      split
      · exact Nat.zero_le _
      · split
        · have hp' := nodes_bd ha p (named_sub hp)
          have hq' := nodes_bd hb q (named_sub hq)
          exact alike_len hp'.2 hq'.2 hp'.1 hq'.1
        · exact Nat.pos_of_ne_zero (by simp)
    rw [alike_eq ha]
    refine Nat.le_trans (len_flatMap h1) ?_
    refine Nat.le_trans (Nat.mul_le_mul_right _ (Nat.le_trans (named_len _) la)) ?_
    rw [Nat.pow_succ]; exact ar401

theorem cell_len {d : Nat} {a b : G} (ha : a.Bd (d + 1)) (hb : b.Bd (d + 1)) {p q : Pt} (hp : p ∈ a.named) (hq : q ∈ b.named) : (cell (d + 1) p q).length ≤ 4 ^ d := by
  unfold cell
  split
  · exact Nat.zero_le _
  · split
    · have hp' := nodes_bd ha p (named_sub hp)
      have hq' := nodes_bd hb q (named_sub hq)
      exact alike_len hp'.2 hq'.2 hp'.1 hq'.1
    · exact Nat.pos_of_ne_zero (by simp)
theorem acc_len {d : Nat} {a b : G} (hd : d ≤ 2) (ha : a.Bd (d + 1)) (hb : b.Bd (d + 1)) (la : a.tops.length ≤ 2) (lb : b.tops.length ≤ 2) {p : Pt} (hp : p ∈ a.named) (i j : Nat) :
    (((a.named.take i).flatMap fun p => b.named.flatMap (cell (d + 1) p)) ++ (b.named.take j).flatMap (cell (d + 1) p)).length < 5000 := by
  have h4 : 4 ^ d ≤ 4 ^ 2 := Nat.pow_le_pow_right (by decide) hd
  have h1 : ∀ p ∈ a.named.take i, (b.named.flatMap (cell (d + 1) p)).length ≤ 2 * 16 := fun p hp => by
    refine Nat.le_trans (len_flatMap (c := 16) fun q hq => Nat.le_trans (cell_len ha hb (List.mem_of_mem_take hp) hq) h4) (Nat.mul_le_mul_right _ (Nat.le_trans (named_len _) lb))
  have h2 := len_flatMap (f := fun p => b.named.flatMap (cell (d + 1) p)) h1
  have h3 : ((b.named.take j).flatMap (cell (d + 1) p)).length ≤ (b.named.take j).length * 16 := len_flatMap fun q hq => Nat.le_trans (cell_len ha hb hp (List.mem_of_mem_take hq)) h4
  have h5 : (a.named.take i).length ≤ 2 := Nat.le_trans (List.length_take_le' _ _) (Nat.le_trans (named_len _) la)
  have h6 : (b.named.take j).length ≤ 2 := Nat.le_trans (List.length_take_le' _ _) (Nat.le_trans (named_len _) lb)
  rw [List.length_append]
  omega

/-- an item as the walks find it: its node, its kids, the way up -/
structure ItemR (hB : Heap) (P : Params) (x : Addr) (n : Nd) (k : G) (par : Value) (l : List Addr) : Prop where
  node : NodeR (fun a o => hB.get? a = some o) P par x n k.tops
  kids : KidsR (fun a o => hB.get? a = some o) P (.ref x) k
  up : UpR (fun a o => hB.get? a = some o) P par l
  us : k.tops ≠ [] → n.us = Str.ofString ""
  usk : k.UsOk
  two : k.tops.length ≤ 2
theorem ItemR.mono {hB g : Heap} {P : Params} {x : Addr} {n : Nd} {k : G} {par : Value} {l : List Addr} (h : ItemR hB P x n k par l) (st : hB.StaysIn g) : ItemR g P x n k par l :=
  ⟨h.node.mono st, h.kids.mono st, h.up.mono st, h.us, h.usk, h.two⟩
theorem nodes_usOk : ∀ {g : G}, g.UsOk → ∀ q ∈ g.nodes, (q.2.2.tops ≠ [] → q.2.1.us = Str.ofString "") ∧ q.2.2.UsOk
  | .nil, _, q, hq => nomatch hq
  | .cons x n k r, h, q, hq => by
    rcases List.mem_cons.mp hq with e | e
    · rw [e]; exact ⟨h.1.1, h.2.1⟩
    · exact nodes_usOk h.2.2 q e
theorem nodes_kids {has : Addr → Obj → Prop} {P : Params} {par : Value} : ∀ {g : G}, KidsR has P par g → ∀ q ∈ g.nodes, NodeR has P par q.1 q.2.1 q.2.2.tops ∧ KidsR has P (.ref q.1) q.2.2
  | .nil, _, q, hq => nomatch hq
  | .cons x n k r, h, q, hq => by
    rcases List.mem_cons.mp hq with e | e
    · rw [e]; exact ⟨h.1, h.2.1⟩
    · exact nodes_kids h.2.2 q e
theorem ItemR.kid {hB : Heap} {P : Params} {x : Addr} {n : Nd} {k : G} {par : Value} {l : List Addr} {d : Nat} (h : ItemR hB P x n k par l) (hb : k.Bd (d + 1)) {q : Pt} (hq : q ∈ k.named) : ItemR hB P q.1 q.2.1 q.2.2 (.ref x) (x :: l) ∧ q.2.2.Bd d := by
  have hq := named_sub hq
  have h1 := nodes_kids h.kids q hq
  have h2 := nodes_usOk h.usk q hq
  have h3 := nodes_bd hb q hq
  have hne : k.tops ≠ [] := fun e => by
    have := nodes_len k
    rw [e] at this
    cases hk : k.nodes with
    | nil => rw [hk] at hq; cases hq
    | cons _ _ => rw [hk] at this; cases this
  exact ⟨⟨h1.1, h1.2, ⟨rfl, n, k.tops, par, h.node, h.us hne, h.up⟩, h2.1, h2.2, h3.1⟩, h3.2⟩

noncomputable abbrev tupOf (its : Array Value) (n : Nat) : Obj := { cls := .type "tuple", data := .seq its n }
/-- the tuples that tell pairs -/
inductive PairsL (ex : List (Addr × Obj)) : List Value → List (Addr × Addr) → Prop
  | nil : PairsL ex [] []
  | cons {t : Addr} {a b : Addr} {n : Nat} {vs : List Value} {ps : List (Addr × Addr)} : (t, tupOf #[.ref a, .ref b] n) ∈ ex → PairsL ex vs ps → PairsL ex (.ref t :: vs) ((a, b) :: ps)
theorem PairsL.mono {ex ex' : List (Addr × Obj)} {vs : List Value} {ps : List (Addr × Addr)} (h : PairsL ex vs ps) (k : ∀ q ∈ ex, q ∈ ex') : PairsL ex' vs ps := by
  induction h with
  | nil => exact .nil
  | cons h1 _ ih => exact .cons (k _ h1) ih
theorem PairsL.append {ex : List (Addr × Obj)} {vs us : List Value} {ps qs : List (Addr × Addr)} (h : PairsL ex vs ps) (k : PairsL ex us qs) : PairsL ex (vs ++ us) (ps ++ qs) := by
  induction h with
  | nil => exact k
  | cons h1 _ ih => exact .cons h1 ih
theorem PairsL.len {ex : List (Addr × Obj)} {vs : List Value} {ps : List (Addr × Addr)} (h : PairsL ex vs ps) : vs.length = ps.length := by
  induction h with
  | nil => rfl
  | cons _ _ ih => simp [ih]
noncomputable def IsTupO (o : Obj) : Prop := ∃ its n, o = tupOf its n

/-- other objects lie elsewhere -/
theorem News.off {g h : Heap} {L a b : Addr} {o o' : Obj} {led : List (Addr × Obj)} (N : News g L h led) (h1 : (a, o) ∈ led) (h2 : (b, o') ∈ led) (hne : o ≠ o') : a ≠ b := fun e => by
  have x := (N _ h1).1
  have y := (N _ h2).1
  rw [show (a, o).1 = (b, o').1 from e, y] at x
  exact hne (Option.some.inj x).symm

inductive AlikeΨ (tb : List (Addr × Obj)) (ps : List (Addr × Addr)) (r : Value) (tl : List (Addr × Obj)) : Prop
  | mk : ∀ D dn vs tb' ex, (r = .ref D) → (tl = (D, listOf vs.toArray dn) :: (tb' ++ ex)) → (TabS tb tb') → (PairsL ex vs ps) → (∀ q ∈ ex, IsTupO q.2) → AlikeΨ tb ps r tl
noncomputable def AlikeSpec (d : Nat) : Prop := ∀ {prog : Program} {w : World} {A : Around} {s : Shared} {p : Program} {loose : List Str} {mean : ExcName → Option Value} {mg mb : Str → Option Value} {hB : Heap} {x y : Addr} {nx ny : Nd} {kx ky : G} {parx pary : Value} {lx ly : List Addr} {tb : List (Addr × Obj)},
  (hd.heap_39 w.params).In hB → Top p loose mean mg mb hB → hB.StaysIn s.heap → ItemR hB w.params x nx kx parx lx → ItemR hB w.params y ny ky pary ly → kx.Bd d → ky.Bd d → lx.length + d ≤ 7 → ly.length + d ≤ 7 →
  d ≤ 3 → CodeHd hB 117 113 → A.depth + 2 * d + 16 < recursionLimit → A.handled = none → A.units + 3 * d + 3 < 1000 → Tab tb → (∀ q ∈ tb, s.heap.get? q.1 = some q.2 ∧ hB.get? q.1 = none) →
  Does prog w A (tb.map (·.1)) (call (.ref 137) [.ref x, .ref y]) s (AlikeΨ tb (alike d kx ky))

theorem ext_K {prog : Program} {w : World} {A : Around} {s : Shared} {E : Value → Shared → Prop} {Q : Value → Shared → Prop} {h₀ : Heap} {L D b : Addr} {m : Str → Option Value} {vs us : List Value} {n n2 : Nat} {led : List (Addr × Obj)} (F : Fr h₀ L s.heap m) (N : News h₀ L s.heap ((D, listOf vs.toArray n) :: led)) (hb : (b, listOf us.toArray n2) ∈ led) (off : ∀ q ∈ led, q.1 ≠ D) (hz : vs.length + us.length < 10000)
    (k : ∀ h' n', Fr h₀ L h' m → News h₀ L h' ((D, listOf (vs ++ us).toArray n') :: led) → Q .none { s with heap := h' }) : wpAny (model prog w) A (call (.builtin "list.extend") [.ref D, .ref b]) Q E s := by
  have h1 : ¬(!vs.toArray.isEmpty && Builtin.List.listTooLong (vs.toArray.size + us.toArray.size)) = true := PyProof.Rows.extend_door (by rw [sizeLine_eq]; simp only [List.size_toArray]; exact ar403 hz)
  have h2 : vs.toArray.toList.length ≤ sizeLine := by rw [sizeLine_eq]; simp only [List.toList_toArray]; exact ar404 hz
  have h3 : vs.toArray.size + us.toArray.size ≤ sizeLine + 1 := by rw [sizeLine_eq]; simp only [List.size_toArray]; exact ar405 hz
  cases us with
  | nil =>
    refine kxn_extend F N (.tail _ hb) rfl (Upd.head off) h1 h2 h3 fun h' F' N' => k h' n F' ?_
    rw [List.append_nil]; exact N'
  | cons u us =>
    exact kl_extend (l := vs ++ u :: us) F N (.tail _ hb) (by simp) (by simp) (Upd.head off) h1 h2 h3 fun h' F' N' => k h' (n + 1) F' N'
end
section
-- G1
open PySem.Spec
theorem fillG1 : ∀ P : Params, (hd.heap_39 P) = hd.heap_39 P ∧ PySem.Challenge.rw_og0075_01 = PySem.Challenge.rw_og0075_01 := by
  k_fill
  intro P; exact ⟨rfl, rfl⟩

noncomputable abbrev Way := List Str × Addr × Bool
noncomputable def G.ways : G → List Str → List Way
  | .nil, _ => []
  | .cons x n k r, w => (if n.can = true then (w ++ [n.nm], x, k.group) :: k.ways (w ++ [n.nm]) else []) ++ r.ways w
noncomputable def wayCell (w : List Str) (p : Pt) : List Way := if p.2.1.can = true then (w ++ [p.2.1.nm], p.1, p.2.2.group) :: p.2.2.ways (w ++ [p.2.1.nm]) else []
theorem ways_eq (w : List Str) : ∀ g : G, g.ways w = g.nodes.flatMap (wayCell w)
  | .nil => rfl
  | .cons x n k r => by
    show (if n.can = true then (w ++ [n.nm], x, k.group) :: k.ways (w ++ [n.nm]) else []) ++ r.ways w = ((x, n, k) :: r.nodes).flatMap (wayCell w)
    rw [ways_eq w r, List.flatMap_cons]; rfl
/-- how many ways a tree of this height has at most -/
noncomputable def wayMax : Nat → Nat
  | 0 => 0
  | d + 1 => 2 * (1 + wayMax d)
theorem nodes_two {g : G} (h : g.tops.length ≤ 2) : g.nodes.length ≤ 2 := by rw [nodes_len]; exact h
theorem ways_len : ∀ {d : Nat} {g : G} {w : List Str}, g.Bd d → g.tops.length ≤ 2 → (g.ways w).length ≤ wayMax d
  | 0, .nil, _, _, _ => Nat.zero_le _
  | 0, .cons _ _ _ _, _, h, _ => h.elim
  | d + 1, g, w, h, h2 => by
    rw [ways_eq]
    refine Nat.le_trans (len_flatMap (c := 1 + wayMax d) fun p hp => ?_) (Nat.mul_le_mul_right _ (nodes_two h2))
    have hb := nodes_bd h p hp
    unfold wayCell
    split
    · have := ways_len (w := w ++ [p.2.1.nm]) hb.2 hb.1
      rw [List.length_cons]; exact ar406 this
    · exact Nat.zero_le _

/-- values that are the given texts -/
inductive StrV : List Value → List Str → Prop
  | nil : StrV [] []
  | cons {s : Str} {t : Tok} {vs : List Value} {ss : List Str} : StrV vs ss → StrV (.str s t :: vs) (s :: ss)
theorem StrV.append {vs us : List Value} {a b : List Str} (h : StrV vs a) (k : StrV us b) : StrV (vs ++ us) (a ++ b) := by
  induction h with
  | nil => exact k
  | cons _ ih => exact .cons ih
theorem StrV.len {vs : List Value} {a : List Str} (h : StrV vs a) : vs.length = a.length := by
  induction h with
  | nil => rfl
  | cons _ ih => simp [ih]
/-- the tuples that tell ways -/
inductive WaysL (ex : List (Addr × Obj)) : List Value → List Way → Prop
  | nil : WaysL ex [] []
  | cons {t u a : Addr} {b : Bool} {n m : Nat} {us vs : List Value} {w : List Str} {ws : List Way} : (t, tupOf #[.ref u, .ref a, .bool b] n) ∈ ex → (u, tupOf us.toArray m) ∈ ex → StrV us w → WaysL ex vs ws → WaysL ex (.ref t :: vs) ((w, a, b) :: ws)
theorem WaysL.mono {ex ex' : List (Addr × Obj)} {vs : List Value} {ws : List Way} (h : WaysL ex vs ws) (k : ∀ q ∈ ex, q ∈ ex') : WaysL ex' vs ws := by
  induction h with
  | nil => exact .nil
  | cons h1 h2 h3 _ ih => exact .cons (k _ h1) (k _ h2) h3 ih
theorem WaysL.append {ex : List (Addr × Obj)} {vs us : List Value} {a b : List Way} (h : WaysL ex vs a) (k : WaysL ex us b) : WaysL ex (vs ++ us) (a ++ b) := by
  induction h with
  | nil => exact k
  | cons h1 h2 h3 _ ih => exact .cons h1 h2 h3 ih
theorem WaysL.len {ex : List (Addr × Obj)} {vs : List Value} {ws : List Way} (h : WaysL ex vs ws) : vs.length = ws.length := by
  induction h with
  | nil => rfl
  | cons _ _ _ _ ih => simp [ih]

inductive WaysΨ (u : Addr) (us : List Value) (un : Nat) (ws : List Way) (r : Value) (tl : List (Addr × Obj)) : Prop
  | mk : ∀ D dn vs ex, (r = .ref D) → (tl = (D, listOf vs.toArray dn) :: (u, tupOf us.toArray un) :: ex) → (WaysL ex vs ws) → (∀ q ∈ ex, IsTupO q.2) → WaysΨ u us un ws r tl
noncomputable def WaysSpec (d : Nat) : Prop := ∀ {prog : Program} {w : World} {A : Around} {s : Shared} {p : Program} {loose : List Str} {mean : ExcName → Option Value} {mg mb : Str → Option Value} {hB : Heap} {x u : Addr} {n : Nd} {k : G} {par : Value} {us : List Value} {un : Nat} {w0 : List Str},
  (hd.heap_39 w.params).In hB → Top p loose mean mg mb hB → hB.StaysIn s.heap → NodeR (fun a o => hB.get? a = some o) w.params par x n k.tops → KidsR (fun a o => hB.get? a = some o) w.params (.ref x) k → k.tops.length ≤ 2 → k.Bd d → StrV us w0 → us.length + d ≤ 7 → d ≤ 3 →
  A.depth + 2 * d + 12 < recursionLimit → A.handled = none → A.units + 3 * d + 3 < 1000 → (s.heap.get? u = some (tupOf us.toArray un) ∧ hB.get? u = none) →
  Does prog w A [u] (call (.ref 163) [.ref x, .ref u]) s (WaysΨ u us un (k.ways w0))

/-- GrpI beside a ledger -/
noncomputable def GrpN (k : G) (news0 : List (Addr × Obj)) (i : Nat) (acc : List Value) (news : List (Addr × Obj)) : Prop :=
  news = news0 ∧ acc.length ≤ i ∧ i ≤ k.tops.length ∧ (acc = [] ↔ ∀ j, j < i → ∀ y n ks, k.nodeAt j = some (y, n, ks) → n.lvl = 66)
theorem grpN_end {k : G} {news0 news : List (Addr × Obj)} {acc : List Value} (h : GrpN k news0 (k.tops.map Value.ref).length acc news) : decide ((acc.length : Int) > 0) = k.group := by
  obtain ⟨_, _, _, b3⟩ := h
  rw [List.length_map] at b3
  cases hg : k.group with
  | false =>
    have : acc = [] := b3.mpr fun j _ y n ks hn => by
      by_cases q : n.lvl = 66
      · exact q
      · rw [(group_iff k).mpr ⟨j, y, n, ks, hn, q⟩] at hg; cases hg
    rw [this]; rfl
  | true =>
    obtain ⟨i, y, n, ks, h1, h2⟩ := (group_iff k).mp hg
    cases acc with
    | nil =>
      refine absurd (b3.mp rfl i ?_ y n ks h1) h2
      have h3 := nodeAt_tops k i
      rw [h1] at h3
      exact (List.getElem?_eq_some_iff.mp h3.symm).1
    | cons _ _ => simp
theorem tup_ne_list {a b : Array Value} {n m : Nat} (e : tupOf a n = listOf b m) : False := by
  have h := congrArg Obj.cls e
  injection h with h
  exact absurd h (by decide)
/-- a tuple and one item more -/
theorem snoc_tup {prog : Program} {w : World} {A : Around} {s : Shared} {E : Value → Shared → Prop} {Q : Value → Shared → Prop} {h₀ : Heap} {L u b : Addr} {m : Str → Option Value} {us : List Value} {un bn : Nat} {v : Value} {led : List (Addr × Obj)} (F : Fr h₀ L s.heap m) (N : News h₀ L s.heap ((b, tupOf #[v] bn) :: led)) (hu : (u, tupOf us.toArray un) ∈ led) (lb : ∀ q ∈ led, @LT.lt Nat _ q.1 b) (hz : us.length < 100)
    (k : ∀ D n h', Fr h₀ L h' m → News h₀ L h' ((D, tupOf (us ++ [v]).toArray n) :: led) → (∀ q ∈ led, @LT.lt Nat _ q.1 D) → Q (.ref D) { s with heap := h' }) :
    wpAny (model prog w) A (binaryOp .Add (.ref u) (.ref b)) Q E s := by
  have hb := N _ (.head _)
  have hu' := N _ (.tail _ hu)
  refine PyProof.Rows.add_tuples (vs := us) (ws := [v]) F N ⟨_, hu'.1, rfl, _, rfl⟩ ⟨_, hb.1, rfl, _, rfl⟩ (fun e => ?_) (fun _ e => by cases e) (fun _ _ h' F' N' => ?_) (by rw [sizeLine_eq]; simp only [List.length_cons, List.length_nil]; exact ar407 hz)
  · subst e
    exact k b bn s.heap F N lb
  · exact k _ _ h' F' (News.sub N' fun q hq => by
      rcases List.mem_cons.mp hq with h | h
      · rw [h]; exact .head _
      · exact .tail _ (.tail _ h)) fun q hq => Heap.lt_size (N q (.tail _ hq)).1
end
section
-- F2
open PySem.Spec
theorem fillF2 : ∀ P : Params, (hd.heap_39 P) = hd.heap_39 P ∧ PySem.Challenge.rw_og0075_01 = PySem.Challenge.rw_og0075_01 := by
  k_fill
  intro P; exact ⟨rfl, rfl⟩
inductive AlikeLoc (D x y : Addr) (m : Str → Option Value) : Prop
  | mk : ∀ lv kv : Option Value, (∀ z, m z = if z = Str.ofString "like" then lv else if z = Str.ofString "kid" then kv else if z = Str.ofString "found" then some (.ref D) else [(Str.ofString "other", Value.ref y), (Str.ofString "one", Value.ref x)].lookup z) → AlikeLoc D x y m
inductive OuterI (tb : List (Addr × Obj)) (d : Nat) (kx ky : G) (D x y : Addr) (i : Nat) (m : Str → Option Value) (news : List (Addr × Obj)) : Prop
  | mk : ∀ vs dn tb' ex, (news = (D, listOf vs.toArray dn) :: (tb' ++ ex)) → (TabS tb tb') → (PairsL ex vs ((kx.named.take i).flatMap fun p => ky.named.flatMap (cell d p))) → ((∀ q ∈ ex, IsTupO q.2)) → (AlikeLoc D x y m) → OuterI tb d kx ky D x y i m news
inductive InnerI (tb : List (Addr × Obj)) (d : Nat) (pk : Pt) (ky : G) (pre : List (Addr × Addr)) (keep : List (Addr × Obj)) (J1 D x y : Addr) (i : Nat) (m : Str → Option Value) (news : List (Addr × Obj)) : Prop
  | mk : ∀ vs dn tb' ex, (news = (D, listOf vs.toArray dn) :: (keep ++ (tb' ++ ex))) → (TabS tb tb') → (PairsL ex vs (pre ++ (ky.named.take i).flatMap (cell d pk))) → ((∀ q ∈ ex, IsTupO q.2)) → ((∀ q ∈ tb' ++ ex, q.1 ≠ J1)) → ∀ lv : Option Value, (∀ z, m z = if z = Str.ofString "like" then lv else if z = Str.ofString "kid" then some (.ref pk.1) else if z = Str.ofString "found" then some (.ref D) else [(Str.ofString "other", Value.ref y), (Str.ofString "one", Value.ref x)].lookup z) → InnerI tb d pk ky pre keep J1 D x y i m news
theorem alike_S (d : Nat) (ihd : ∀ d', d = d' + 1 → AlikeSpec d') : AlikeSpec d := by
  intro prog w A s p loose mean mg mb hB x y nx ny kx ky parx pary lx ly tb X T st hx hy bx byy llx lly hd3 C hdp hh hu ht hH
  intro Q E kk
  have hroom : A.depth < recursionLimit := by exact ar357 hdp hd3
  refine' enterF (binds := [(Str.ofString "one", .ref x), (Str.ofString "other", .ref y)]) (rb := [(Str.ofString "other", .ref y), (Str.ofString "one", .ref x)]) X T st hH hroom ?ho ?hcd ?hb ?hl ?hr ?_ ?c2 ?c3 ?c4 ?c5
  case ho => k_is
  case hcd => k_is
  case hb => exact BindsTo.of_eq rfl
  case hl => exact locs rfl
  case hr => exact rfl
  case c2 => exact rfl
  case c3 => exact rfl
  case c4 => exact rfl
  case c5 => decide
  intro g L' h₁ F1 N1 X1 T1 st1 up dn
  have hxg := hx.mono st1
  have hyg := hy.mono st1
  have hCg := C.keeps st1
  k_with "exec For Name Call cons nil" => (refine stop_here ?_)
  k_with "newList" => (k_here; k_dflt (refine' newList_K ?k1 ?k2 ?_; (case k1 => k_asm); (case k2 => k_asm); k_whole); intro D hD FD ND lD; (try k_sweep))
  try k_fold
  k_steps
  refine ⟨?_⟩
  rename Fr g L' _ _ => F6
  rename News g L' _ _ => N6
  refine For_invV g rfl rfl ?_
  k_with_none
  k_with "call ref" => ((with_reducible show wpAny _ _ (call (Value.ref 130) _ _) _ _ _); refine stop_here ?_)
  try k_fold
  k_steps
  refine ⟨?_⟩
  rename Fr g L' _ _ => F7
  rename News g L' _ _ => N7
  have offD : ∀ q ∈ tb, q.1 ≠ D := tab_off ht N7 (.head _) (by exact rfl) fun _ h => .tail _ h
  k_dflt (refine Does.use (ws := tb) (rest := [(D, listOf #[] 0)]) (named_ X1 T1 (fun b o e => F7.keep b o e) hxg.node hxg.up (by exact ar358 llx) hCg hxg.kids hxg.us hxg.two ?_ hh ht (fun q hq => ⟨(N7 q (.tail _ hq)).1, (N7 q (.tail _ hq)).2.2⟩)) F7 (News.sub N7 ?_) ?_ ?_ ?_)
  · show A.depth + 1 + 12 < recursionLimit; exact ar359 hdp hd3
  · intro q hq
    rcases List.mem_append.mp hq with h | h
    · exact .tail _ h
    · rw [List.mem_singleton.mp h]; exact .head _
  · intro a ha
    obtain ⟨q, hq, rfl⟩ := List.mem_map.mp ha
    exact ⟨q.2, hq⟩
  · intro q hq hm
    obtain ⟨z, hz, e⟩ := List.mem_map.mp hm
    rw [List.mem_singleton.mp hq] at e
    exact offD z hz e
  rintro r8 h8 tk8 tl8 F8 N8 a8 ⟨D1, dn1, tb1, rfl, rfl, ht1⟩
  have e81 : D1 ≠ D := fun e => by
    rcases a8 _ (.head _) with z | z
    · exact tabS_off ht1 N8 (.head _) (by exact rfl) (fun q hq => .tail _ (List.mem_append_left _ hq)) z
    · exact z _ (List.mem_append_right _ (.head _)) e.symm
  clear F7 N7
  k_with_none
  k_with "pyIter ref" => (refine stop_here ?_)
  k_with "exec For Name Call cons nil" => (refine stop_here ?_)
  first | (show qk _ _) | (show wpAny _ _ _ _ _ _) | skip
  k_steps
  refine ⟨?_⟩
  rename Fr g L' _ _ => F9
  rename News g L' _ _ => N9
  k_with_none
  with_unfolding_all refine for_listN (vs := kx.named.map fun q => Value.ref q.1) (dn := dn1) (news := (D, listOf #[] 0) :: (tb1 ++ [])) (OuterI tb d kx ky D x y) hh F9 (News.sub N9 ?_) ⟨[], 0, tb1, [], rfl, ht1, .nil, (fun _ h => nomatch h), none, none, fun z => ?_⟩ ?_ ?_
  · intro q hq
    rcases List.mem_cons.mp hq with h | h
    · rw [h]; exact .head _
    · rcases List.mem_cons.mp h with h | h
      · rw [h]; exact List.mem_append_right _ (.head _)
      · rw [List.append_nil] at h; exact List.mem_append_left _ (.tail _ h)
  · by_cases z1 : z = Str.ofString "like"
    · subst z1; with_unfolding_all rfl
    · by_cases z2 : z = Str.ofString "kid"
      · subst z2; with_unfolding_all rfl
      · simp only [if_neg z1, if_neg z2]
  · rintro i v m₁ news₁ h10 tk10 J1 o1 hv hDJ hJ ⟨vs, dn, tb2, ex, rfl, ht2, hps, hex, lv, kv, hm⟩ hoff F10 N10
    obtain ⟨pk, hpk, rfl⟩ : ∃ pk, kx.named[i]? = some pk ∧ v = .ref pk.1 := by
      rw [List.getElem?_map] at hv
      obtain ⟨pk, h1, h2⟩ := Option.map_eq_some_iff.mp hv
      exact ⟨pk, h1, h2.symm⟩
    have hpkm : pk ∈ kx.named := List.mem_of_getElem? hpk
    obtain ⟨d', rfl⟩ : ∃ d', d = d' + 1 := by
      cases d with
      | zero =>
        cases kx with
        | nil => cases hpkm
        | cons _ _ _ _ => exact bx.elim
      | succ d => exact ⟨d, rfl⟩
    have em : (fun z => if z = Str.ofString "kid" then some (Value.ref pk.1) else m₁ z) = fun z => if z = Str.ofString "like" then lv else if z = Str.ofString "kid" then some (Value.ref pk.1) else if z = Str.ofString "found" then some (.ref D) else [(Str.ofString "other", Value.ref y), (Str.ofString "one", Value.ref x)].lookup z := by
      funext z
      by_cases z1 : z = Str.ofString "like"
      · subst z1; rw [hm]; with_unfolding_all rfl
      · by_cases z2 : z = Str.ofString "kid"
        · simp only [if_neg z1, if_pos z2]
        · simp only [if_neg z1, if_neg z2]; rw [hm]; simp only [if_neg z1, if_neg z2]
    rw [em] at F10
    clear em
    change Fr g L' _ _ at F10
    change News g L' _ ((J1, o1) :: (D1, listOf (kx.named.map fun q => Value.ref q.1).toArray dn1) :: (D, listOf vs.toArray dn) :: (tb2 ++ ex)) at N10
    clear F9 N9
    k_with "exec For Name Call cons nil" => (refine stop_here ?_)
    try k_fold
    k_steps
    refine ⟨?_⟩
    refine For_invV g rfl rfl ?_
    k_with_none
    k_with "call ref" => ((with_reducible show wpAny _ _ (call (Value.ref 130) _ _) _ _ _); refine stop_here ?_)
    try k_fold
    k_steps
    refine ⟨?_⟩
    rename Fr g L' _ _ => F11
    rename News g L' _ _ => N11
    have tb2m : ∀ q ∈ tb2, q ∈ (J1, o1) :: (D1, listOf (kx.named.map fun q => Value.ref q.1).toArray dn1) :: (D, listOf vs.toArray dn) :: (tb2 ++ ex) := fun q hq => .tail _ (.tail _ (.tail _ (List.mem_append_left _ hq)))
    k_dflt (refine Does.use (ws := tb2) (rest := (J1, o1) :: (D1, listOf (kx.named.map fun q => Value.ref q.1).toArray dn1) :: (D, listOf vs.toArray dn) :: ex) (named_ X1 T1 (fun b o e => F11.keep b o e) hyg.node hyg.up (by exact ar360 lly hd3) hCg hyg.kids hyg.us hyg.two ?_ hh ht2.1 (fun q hq => ⟨(N11 q (tb2m q hq)).1, (N11 q (tb2m q hq)).2.2⟩)) F11 (News.sub N11 ?_) ?_ ?_ ?_)
    · show A.depth + 1 + 12 < recursionLimit; exact ar361 hdp hd3
    · intro q hq
      exact (by walk_at "mine subs" : ∀ z ∈ _, z ∈ _) q hq
    · intro a ha
      obtain ⟨q, hq, rfl⟩ := List.mem_map.mp ha
      exact ⟨q.2, hq⟩
    · intro q hq hm
      obtain ⟨z, hz, e⟩ := List.mem_map.mp hm
      rcases List.mem_cons.mp hq with h | h
      · rw [h] at e; exact hoff z (.tail _ (List.mem_append_left _ hz)) e
      · rcases List.mem_cons.mp h with h | h
        · rw [h] at e; exact tab_off ht2.1 N11 (.tail _ (.head _)) (by exact rfl) tb2m z hz e
        · rcases List.mem_cons.mp h with h | h
          · rw [h] at e; exact tab_off ht2.1 N11 (.tail _ (.tail _ (.head _))) (by exact rfl) tb2m z hz e
          · obtain ⟨its, n, ho⟩ := hex q h
            exact tab_off ht2.1 N11 (o := q.2) (.tail _ (.tail _ (.tail _ (List.mem_append_right _ h)))) (by rw [ho]) tb2m z hz e
    rintro r12 h12 tk12 tl12 F12 N12 a12 ⟨D2, dn2, tbn, rfl, rfl, htn⟩
    have ht03 := ht2.trans htn
    have o12 : ∀ p ∈ tb2 ++ ((J1, o1) :: (D1, listOf (kx.named.map fun q => Value.ref q.1).toArray dn1) :: (D, listOf vs.toArray dn) :: ex), p.1 ≠ D2 := by
      rcases a12 _ (.head _) with z | z
      · exact absurd z (tabS_off htn N12 (.head _) (by exact rfl) fun q hq => .tail _ (List.mem_append_left _ hq))
      · exact z
    have j12 : ∀ q ∈ tbn, q.1 ≠ J1 := fun q hq => by
      rcases a12 q (.tail _ hq) with z | z
      · obtain ⟨z, hz, e⟩ := List.mem_map.mp z
        rw [← e]; exact hoff z (.tail _ (List.mem_append_left _ hz))
      · exact (z _ (List.mem_append_right _ (.head _))).symm
    clear F11 N11 tb2m
    k_with_none
    k_with "pyIter ref" => (refine stop_here ?_)
    k_with "exec For Name Call cons nil" => (refine stop_here ?_)
    first | (show qk _ _) | (show wpAny _ _ _ _ _ _) | skip
    k_steps
    refine ⟨?_⟩
    rename Fr g L' _ _ => F13
    rename News g L' _ _ => N13
    k_with_none
    with_unfolding_all refine for_listN (vs := ky.named.map fun q => Value.ref q.1) (dn := dn2) (news := (D, listOf vs.toArray dn) :: ([(J1, o1), (D1, listOf (kx.named.map fun q => Value.ref q.1).toArray dn1)] ++ (tbn ++ ex))) (InnerI tb (d' + 1) pk ky ((kx.named.take i).flatMap fun p => ky.named.flatMap (cell (d' + 1) p)) [(J1, o1), (D1, listOf (kx.named.map fun q => Value.ref q.1).toArray dn1)] J1 D x y) hh F13 (News.sub N13 ?_) ⟨vs, dn, tbn, ex, rfl, ht03, ?_, hex, ?_, lv, fun z => ?_⟩ ?_ ?_
    · intro q hq
      exact (by walk_at "mine subs" : ∀ z ∈ _, z ∈ _) q hq
    · rw [List.take_zero, List.flatMap_nil, List.append_nil]; exact hps
    · intro q hq
      rcases List.mem_append.mp hq with h | h
      · exact j12 q h
      · exact hoff q (.tail _ (List.mem_append_right _ h))
    · rfl
    · rintro j v m₂ news₂ h14 tk14 J2 o2 hv2 hDJ2 hJ2 ⟨vs3, dn3, tb3, ex3, rfl, ht3, hps3, hex3, hJ3, lv3, hm3⟩ hoff3 F14 N14
      obtain ⟨pq, hpq, rfl⟩ : ∃ pq, ky.named[j]? = some pq ∧ v = .ref pq.1 := by
        rw [List.getElem?_map] at hv2
        obtain ⟨pq, h1, h2⟩ := Option.map_eq_some_iff.mp hv2
        exact ⟨pq, h1, h2.symm⟩
      have hpqm : pq ∈ ky.named := List.mem_of_getElem? hpq
      obtain ⟨hik, hbk⟩ := hxg.kid bx hpkm
      obtain ⟨hil, hbl⟩ := hyg.kid byy hpqm
      have em : (fun z => if z = Str.ofString "like" then some (Value.ref pq.1) else m₂ z) = fun z => if z = Str.ofString "like" then some (Value.ref pq.1) else if z = Str.ofString "kid" then some (Value.ref pk.1) else if z = Str.ofString "found" then some (.ref D) else [(Str.ofString "other", Value.ref y), (Str.ofString "one", Value.ref x)].lookup z := by
        funext z
        by_cases z1 : z = Str.ofString "like"
        · simp only [if_pos z1]
        · simp only [if_neg z1]; rw [hm3]; simp only [if_neg z1]
      rw [em] at F14
      clear em
      change Fr g L' _ _ at F14
      change News g L' _ ((J2, o2) :: (D2, listOf (ky.named.map fun q => Value.ref q.1).toArray dn2) :: (D, listOf vs3.toArray dn3) :: (J1, o1) :: (D1, listOf (kx.named.map fun q => Value.ref q.1).toArray dn1) :: (tb3 ++ ex3)) at N14
      have hoff4 : ∀ p ∈ (D, listOf vs3.toArray dn3) :: (J1, o1) :: (D1, listOf (kx.named.map fun q => Value.ref q.1).toArray dn1) :: (tb3 ++ ex3), p.1 ≠ J2 := hoff3
      clear F13 N13 hv hv2
      have hstep : (ky.named.take (j + 1)).flatMap (cell (d' + 1) pk) = (ky.named.take j).flatMap (cell (d' + 1) pk) ++ cell (d' + 1) pk pq := by
        rw [List.take_add_one, hpq]; simp
      have hlen3 : (((kx.named.take i).flatMap fun p => ky.named.flatMap (cell (d' + 1) p)) ++ (ky.named.take j).flatMap (cell (d' + 1) pk)).length < 5000 := acc_len (by exact ar362 hd3) bx byy hxg.two hyg.two hpkm i j
      -- what lies apart
      have mD : (D, listOf vs3.toArray dn3) ∈ (J2, o2) :: (D2, listOf (ky.named.map fun q => Value.ref q.1).toArray dn2) :: (D, listOf vs3.toArray dn3) :: (J1, o1) :: (D1, listOf (kx.named.map fun q => Value.ref q.1).toArray dn1) :: (tb3 ++ ex3) := .tail _ (.tail _ (.head _))
      have mt : ∀ q ∈ tb3 ++ ex3, q ∈ (J2, o2) :: (D2, listOf (ky.named.map fun q => Value.ref q.1).toArray dn2) :: (D, listOf vs3.toArray dn3) :: (J1, o1) :: (D1, listOf (kx.named.map fun q => Value.ref q.1).toArray dn1) :: (tb3 ++ ex3) := fun q hq => .tail _ (.tail _ (.tail _ (.tail _ (.tail _ hq))))
      have offD3 : ∀ q ∈ (J2, o2) :: (D2, listOf (ky.named.map fun q => Value.ref q.1).toArray dn2) :: (J1, o1) :: (D1, listOf (kx.named.map fun q => Value.ref q.1).toArray dn1) :: (tb3 ++ ex3), q.1 ≠ D := by
        intro q hq
        simp only [List.mem_cons, List.mem_append] at hq
        rcases hq with h | h | h | h | h | h
        · rw [h]; exact (hoff4 (D, listOf vs3.toArray dn3) (.head _)).symm
        · rw [h]; exact (o12 (D, listOf vs.toArray dn) (List.mem_append_right _ (.tail _ (.tail _ (.head _))))).symm
        · rw [h]; exact (hoff _ (.head _)).symm
        · rw [h]; exact e81
        · exact tab_off ht3.1 N14 mD (by exact rfl) (fun q hq => mt q (List.mem_append_left _ hq)) q h
        · obtain ⟨its, n, ho⟩ := hex3 q h
          refine News.off (o := q.2) N14 (mt q (List.mem_append_right _ h)) mD (fun e => ?_)
          rw [ho] at e; exact tup_ne_list e
      have hnk := hik.node
      have hnl := hil.node
      obtain ⟨dk, klk, clk, tkk, occk, enk, knk, cnk, k1, k2, k3, k4, k5⟩ := hik.node
      have hIk : PySem.W.InstAt g pk.1 (instObj 88 dk) 88 (some (dictOf (nodeEs w.params tkk pk.2.1 occk clk klk (.ref x)) enk)) := ⟨k1, rfl, rfl, k2⟩
      obtain ⟨dl, kll, cll, tkl, occl, enl, knl, cnl, l1, l2, l3, l4, l5⟩ := hil.node
      have hIl : PySem.W.InstAt g pq.1 (instObj 88 dl) 88 (some (dictOf (nodeEs w.params tkl pq.2.1 occl cll kll (.ref y)) enl)) := ⟨l1, rfl, rfl, l2⟩
      k_with "call ref" => ((with_reducible show wpAny _ _ (call (Value.ref 104) _ _) _ _ _); refine stop_here ?_)
      try k_fold
      k_steps
      · rename (pq.2.1.nm != pk.2.1.nm) = true => hne
        have hc0 : cell (d' + 1) pk pq = [] := by
          unfold cell
          rw [if_pos (by simpa using hne)]
        rename Fr g L' _ _ => Fz
        rename News g L' _ _ => Nz
        exact ⟨⟨_, _, _, _, rfl, Fz, Nz, hoff4, vs3, dn3, tb3, ex3, rfl, ht3, by rw [hstep, hc0, List.append_nil]; exact hps3, hex3, hJ3, some (.ref pq.1), fun z => rfl⟩⟩
      · rename (pq.2.1.nm != pk.2.1.nm) = false => hne
        have hne : pq.2.1.nm = pk.2.1.nm := by simpa using hne
        refine ⟨?_⟩
        rename Fr g L' _ _ => F15
        rename News g L' _ _ => N15
        k_dflt (refine Does.use (ws := []) (rest := _) (isgroup_ X1 T1 (fun b o e => F15.keep b o e) hik.node ?_ hh hik.two ?_ hik.kids) F15 N15 (fun _ h => nomatch h) (fun _ _ h => nomatch h) ?_)
        · show A.depth + 1 + 8 < recursionLimit; exact ar363 hdp hd3
        · show A.units + 3 < 1000; exact ar364 hu hd3
        rintro r16 h16 tk16 tl16 F16 N16' a16 rfl
        have N16 := News.sub N16' fun q hq => List.mem_append_right _ hq
        clear F15 N15 N16' a16
        k_with_none
        cases hg1 : pk.2.2.group with
        | false =>
          have hcell : ((kx.named.take i).flatMap fun p => ky.named.flatMap (cell (d' + 1) p)) ++ (ky.named.take (j + 1)).flatMap (cell (d' + 1) pk) = (((kx.named.take i).flatMap fun p => ky.named.flatMap (cell (d' + 1) p)) ++ (ky.named.take j).flatMap (cell (d' + 1) pk)) ++ [(pk.1, pq.1)] := by
            rw [hstep, List.append_assoc]
            unfold cell
            rw [if_neg (fun h => h hne), if_neg (fun h => by rw [hg1] at h; exact absurd h.1 (by decide))]
          k_with_none
          k_with "newTuple" => (k_here; k_dflt (refine' kup_newTuple ?F ?N ?_ ?z; (case F => k_asm); (case N => k_asm); (case z => kmk_size)); intro T hT FT NT lT; (try k_sweep))
          k_with "call builtin:list.append" => (refine stop_here ?_)
          first | (show qk _ _) | (show wpAny _ _ _ _ _ _) | skip
          k_steps
          refine ⟨?_⟩
          rename Fr g L' _ _ => Fa
          rename News g L' _ _ => Na
          have lT1 : ∀ q ∈ (J2, o2) :: (D2, listOf (ky.named.map fun q => Value.ref q.1).toArray dn2) :: (D, listOf vs3.toArray dn3) :: (J1, o1) :: (D1, listOf (kx.named.map fun q => Value.ref q.1).toArray dn1) :: (tb3 ++ ex3), @LT.lt Nat _ q.1 T := lT
          have lT2 : ∀ q ∈ (J2, o2) :: (D2, listOf (ky.named.map fun q => Value.ref q.1).toArray dn2) :: (D, listOf vs3.toArray dn3) :: (J1, o1) :: (D1, listOf (kx.named.map fun q => Value.ref q.1).toArray dn1) :: (tb3 ++ ex3), T ≠ q.1 := fun q hq e => Nat.lt_irrefl _ (e ▸ lT1 q hq)
          refine append_K (its := vs3.toArray) (n := dn3) (x := .ref T) Fa (News.sub Na (l' := (D, listOf vs3.toArray dn3) :: (T, tupOf #[.ref pk.1, .ref pq.1] 0) :: (J2, o2) :: (D2, listOf (ky.named.map fun q => Value.ref q.1).toArray dn2) :: (J1, o1) :: (D1, listOf (kx.named.map fun q => Value.ref q.1).toArray dn1) :: (tb3 ++ ex3)) ?_) (Upd.head ?_) ?_ (by rw [List.size_toArray, hps3.len, sizeLine_eq]; exact ar365 hlen3)
          · intro q hq
            exact (by walk_at "mine subs" : ∀ z ∈ _, z ∈ _) q hq
          · intro q hq
            rcases List.mem_cons.mp hq with h | h
            · rw [h]; exact lT2 _ (.tail _ (.tail _ (.head _)))
            · exact offD3 q h
          intro hF FF NF
          have ea : vs3.toArray.push (Value.ref T) = (vs3 ++ [Value.ref T]).toArray := by simp
          rw [ea] at NF
          k_with_none
          try k_fold
          k_steps
          rename Fr g L' _ _ => Fz
          rename News g L' _ _ => Nz
          refine ⟨⟨_, _, _, (D, listOf (vs3 ++ [Value.ref T]).toArray (dn3 + 1)) :: (J1, o1) :: (D1, listOf (kx.named.map fun q => Value.ref q.1).toArray dn1) :: (tb3 ++ ((T, tupOf #[.ref pk.1, .ref pq.1] 0) :: ex3)), rfl, Fz, News.sub Nz ?_, ?_, vs3 ++ [Value.ref T], dn3 + 1, tb3, (T, tupOf #[.ref pk.1, .ref pq.1] 0) :: ex3, rfl, ht3, ?_, ?_, ?_, .some (.ref pq.1), fun z => ?_⟩⟩
          · intro q hq
            exact (by walk_at "mine subs" : ∀ z ∈ _, z ∈ _) q hq
          · intro q hq
            simp only [List.mem_cons, List.mem_append] at hq
            rcases hq with h | h | h | h | h | h
            · rw [h]; exact hoff4 (D, listOf vs3.toArray dn3) (.head _)
            · rw [h]; exact hoff4 _ (.tail _ (.head _))
            · rw [h]; exact hoff4 _ (.tail _ (.tail _ (.head _)))
            · exact hoff4 _ (.tail _ (.tail _ (.tail _ (List.mem_append_left _ h))))
            · rw [h]; exact lT2 _ (.head _)
            · exact hoff4 _ (.tail _ (.tail _ (.tail _ (List.mem_append_right _ h))))
          · rw [hcell]
            exact (hps3.mono fun q h => .tail _ h).append (.cons (.head _) .nil)
          · intro q hq
            rcases List.mem_cons.mp hq with h | h
            · rw [h]; exact ⟨_, _, rfl⟩
            · exact hex3 q h
          · intro q hq
            rcases List.mem_append.mp hq with h | h
            · exact hJ3 q (List.mem_append_left _ h)
            · rcases List.mem_cons.mp h with h | h
              · rw [h]; exact lT2 _ (.tail _ (.tail _ (.tail _ (.head _))))
              · exact hJ3 q (List.mem_append_right _ h)
          · by_cases z1 : z = Str.ofString "like"
            · simp only [if_pos z1]
            · simp only [if_neg z1]
        | true =>
          k_with "call ref" => ((with_reducible show wpAny _ _ (call (Value.ref 104) _ _) _ _ _); refine stop_here ?_)
          first | (show qk _ _) | (show wpAny _ _ _ _ _ _) | skip
          k_steps
          refine ⟨?_⟩
          rename Fr g L' _ _ => F17
          rename News g L' _ _ => N17
          k_dflt (refine Does.use (ws := []) (rest := _) (isgroup_ X1 T1 (fun b o e => F17.keep b o e) hil.node ?_ hh hil.two ?_ hil.kids) F17 N17 (fun _ h => nomatch h) (fun _ _ h => nomatch h) ?_)
          · show A.depth + 1 + 8 < recursionLimit; exact ar363 hdp hd3
          · show A.units + 3 < 1000; exact ar364 hu hd3
          rintro r18 h18 tk18 tl18 F18 N18' a18 rfl
          have N18 := News.sub N18' fun q hq => List.mem_append_right _ hq
          clear F17 N17 N18' a18
          k_with_none
          cases hg2 : pq.2.2.group with
          | false =>
            have hcell : ((kx.named.take i).flatMap fun p => ky.named.flatMap (cell (d' + 1) p)) ++ (ky.named.take (j + 1)).flatMap (cell (d' + 1) pk) = (((kx.named.take i).flatMap fun p => ky.named.flatMap (cell (d' + 1) p)) ++ (ky.named.take j).flatMap (cell (d' + 1) pk)) ++ [(pk.1, pq.1)] := by
              rw [hstep, List.append_assoc]
              unfold cell
              rw [if_neg (fun h => h hne), if_neg (fun h => by rw [hg2] at h; exact absurd h.2 (by decide))]
            k_with_none
            k_with "newTuple" => (k_here; k_dflt (refine' kup_newTuple ?F ?N ?_ ?z; (case F => k_asm); (case N => k_asm); (case z => kmk_size)); intro T hT FT NT lT; (try k_sweep))
            k_with "call builtin:list.append" => (refine stop_here ?_)
            first | (show qk _ _) | (show wpAny _ _ _ _ _ _) | skip
            k_steps
            refine ⟨?_⟩
            rename Fr g L' _ _ => Fa
            rename News g L' _ _ => Na
            have lT1 : ∀ q ∈ (J2, o2) :: (D2, listOf (ky.named.map fun q => Value.ref q.1).toArray dn2) :: (D, listOf vs3.toArray dn3) :: (J1, o1) :: (D1, listOf (kx.named.map fun q => Value.ref q.1).toArray dn1) :: (tb3 ++ ex3), @LT.lt Nat _ q.1 T := lT
            have lT2 : ∀ q ∈ (J2, o2) :: (D2, listOf (ky.named.map fun q => Value.ref q.1).toArray dn2) :: (D, listOf vs3.toArray dn3) :: (J1, o1) :: (D1, listOf (kx.named.map fun q => Value.ref q.1).toArray dn1) :: (tb3 ++ ex3), T ≠ q.1 := fun q hq e => Nat.lt_irrefl _ (e ▸ lT1 q hq)
            refine append_K (its := vs3.toArray) (n := dn3) (x := .ref T) Fa (News.sub Na (l' := (D, listOf vs3.toArray dn3) :: (T, tupOf #[.ref pk.1, .ref pq.1] 0) :: (J2, o2) :: (D2, listOf (ky.named.map fun q => Value.ref q.1).toArray dn2) :: (J1, o1) :: (D1, listOf (kx.named.map fun q => Value.ref q.1).toArray dn1) :: (tb3 ++ ex3)) ?_) (Upd.head ?_) ?_ (by rw [List.size_toArray, hps3.len, sizeLine_eq]; exact ar365 hlen3)
            · intro q hq
              exact (by walk_at "mine subs" : ∀ z ∈ _, z ∈ _) q hq
            · intro q hq
              rcases List.mem_cons.mp hq with h | h
              · rw [h]; exact lT2 _ (.tail _ (.tail _ (.head _)))
              · exact offD3 q h
            intro hF FF NF
            have ea : vs3.toArray.push (Value.ref T) = (vs3 ++ [Value.ref T]).toArray := by simp
            rw [ea] at NF
            k_with_none
            try k_fold
            k_steps
            rename Fr g L' _ _ => Fz
            rename News g L' _ _ => Nz
            refine ⟨⟨_, _, _, (D, listOf (vs3 ++ [Value.ref T]).toArray (dn3 + 1)) :: (J1, o1) :: (D1, listOf (kx.named.map fun q => Value.ref q.1).toArray dn1) :: (tb3 ++ ((T, tupOf #[.ref pk.1, .ref pq.1] 0) :: ex3)), rfl, Fz, News.sub Nz ?_, ?_, vs3 ++ [Value.ref T], dn3 + 1, tb3, (T, tupOf #[.ref pk.1, .ref pq.1] 0) :: ex3, rfl, ht3, ?_, ?_, ?_, .some (.ref pq.1), fun z => ?_⟩⟩
            · intro q hq
              exact (by walk_at "mine subs" : ∀ z ∈ _, z ∈ _) q hq
            · intro q hq
              simp only [List.mem_cons, List.mem_append] at hq
              rcases hq with h | h | h | h | h | h
              · rw [h]; exact hoff4 (D, listOf vs3.toArray dn3) (.head _)
              · rw [h]; exact hoff4 _ (.tail _ (.head _))
              · rw [h]; exact hoff4 _ (.tail _ (.tail _ (.head _)))
              · exact hoff4 _ (.tail _ (.tail _ (.tail _ (List.mem_append_left _ h))))
              · rw [h]; exact lT2 _ (.head _)
              · exact hoff4 _ (.tail _ (.tail _ (.tail _ (List.mem_append_right _ h))))
            · rw [hcell]
              exact (hps3.mono fun q h => .tail _ h).append (.cons (.head _) .nil)
            · intro q hq
              rcases List.mem_cons.mp hq with h | h
              · rw [h]; exact ⟨_, _, rfl⟩
              · exact hex3 q h
            · intro q hq
              rcases List.mem_append.mp hq with h | h
              · exact hJ3 q (List.mem_append_left _ h)
              · rcases List.mem_cons.mp h with h | h
                · rw [h]; exact lT2 _ (.tail _ (.tail _ (.tail _ (.head _))))
                · exact hJ3 q (List.mem_append_right _ h)
            · by_cases z1 : z = Str.ofString "like"
              · simp only [if_pos z1]
              · simp only [if_neg z1]
          | true =>
            have hcell : cell (d' + 1) pk pq = alike d' pk.2.2 pq.2.2 := by
              unfold cell
              rw [if_neg (fun h => h hne), if_pos ⟨hg1, hg2⟩]; rfl
            k_with "call ref" => ((with_reducible show wpAny _ _ (call (Value.ref 137) _ _) _ _ _); refine stop_here ?_)
            first | (show qk _ _) | (show wpAny _ _ _ _ _ _) | skip
            k_steps
            refine ⟨?_⟩
            rename Fr g L' _ _ => F19
            rename News g L' _ _ => N19
            have mt3 : ∀ q ∈ tb3, q ∈ (J2, o2) :: (D2, listOf (ky.named.map fun q => Value.ref q.1).toArray dn2) :: (D, listOf vs3.toArray dn3) :: (J1, o1) :: (D1, listOf (kx.named.map fun q => Value.ref q.1).toArray dn1) :: (tb3 ++ ex3) := fun q hq => mt q (List.mem_append_left _ hq)
            have IH : AlikeSpec d' := @ihd d' rfl
            k_dflt (refine Does.use (ws := tb3) (rest := (J2, o2) :: (D2, listOf (ky.named.map fun q => Value.ref q.1).toArray dn2) :: (D, listOf vs3.toArray dn3) :: (J1, o1) :: (D1, listOf (kx.named.map fun q => Value.ref q.1).toArray dn1) :: ex3) (@IH _ _ _ _ _ _ _ _ _ _ _ _ _ _ _ _ _ _ _ _ _ X1 T1 (fun b o e => F19.keep b o e) hik hil hbk hbl ?_ ?_ (by exact ar349 hd3) hCg ?_ hh ?_ ht3.1 (fun q hq => ⟨(N19 q (mt3 q hq)).1, (N19 q (mt3 q hq)).2.2⟩)) F19 (News.sub N19 ?_) ?_ ?_ ?_)
            · show lx.length + 1 + d' ≤ 7; exact ar350 llx
            · show ly.length + 1 + d' ≤ 7; exact ar350 lly
            · show A.depth + 1 + 2 * d' + 16 < recursionLimit; exact ar366 hdp
            · show A.units + 3 + 3 * d' + 3 < 1000; exact ar352 hu
            · intro q hq
              exact (by walk_at "mine subs" : ∀ z ∈ _, z ∈ _) q hq
            · intro a ha
              obtain ⟨q, hq, rfl⟩ := List.mem_map.mp ha
              exact ⟨q.2, hq⟩
            · intro q hq hm
              obtain ⟨z, hz, e⟩ := List.mem_map.mp hm
              simp only [List.mem_cons] at hq
              rcases hq with h | h | h | h | h | h
              · rw [h] at e; exact hoff4 z (.tail _ (.tail _ (.tail _ (List.mem_append_left _ hz)))) e
              · rw [h] at e; exact tab_off ht3.1 N19 (.tail _ (.head _)) (by exact rfl) mt3 z hz e
              · rw [h] at e; exact tab_off ht3.1 N19 mD (by exact rfl) mt3 z hz e
              · rw [h] at e; exact hJ3 z (List.mem_append_left _ hz) e
              · rw [h] at e; exact tab_off ht3.1 N19 (.tail _ (.tail _ (.tail _ (.tail _ (.head _))))) (by exact rfl) mt3 z hz e
              · obtain ⟨its, n, ho⟩ := hex3 q h
                exact tab_off ht3.1 N19 (o := q.2) (mt q (List.mem_append_right _ h)) (by rw [ho]) mt3 z hz e
            rintro r20 h20 tk20 tl20 F20 N20 a20 ⟨D3, dn4, us, tb4, ex4, rfl, rfl, ht4, hps4, hex4⟩
            have o20 : ∀ p ∈ tb3 ++ ((J2, o2) :: (D2, listOf (ky.named.map fun q => Value.ref q.1).toArray dn2) :: (D, listOf vs3.toArray dn3) :: (J1, o1) :: (D1, listOf (kx.named.map fun q => Value.ref q.1).toArray dn1) :: ex3), p.1 ≠ D3 := by
              rcases a20 _ (.head _) with z | z
              · exact absurd z (tabS_off ht4 N20 (.head _) (by exact rfl) fun q hq => .tail _ (List.mem_append_left _ (List.mem_append_left _ hq)))
              · exact z
            have j20 : ∀ q ∈ tb4 ++ ex4, q.1 ≠ J1 ∧ q.1 ≠ J2 := fun q hq => by
              rcases a20 q (.tail _ hq) with z | z
              · obtain ⟨z, hz, e⟩ := List.mem_map.mp z
                rw [← e]; exact ⟨hJ3 z (List.mem_append_left _ hz), hoff4 z (.tail _ (.tail _ (.tail _ (List.mem_append_left _ hz))))⟩
              · exact ⟨(z _ (List.mem_append_right _ (.tail _ (.tail _ (.tail _ (.head _)))))).symm, (z _ (List.mem_append_right _ (.head _))).symm⟩
            have N21 : News g L' h20 ((D, listOf vs3.toArray dn3) :: (D3, listOf us.toArray dn4) :: (J2, o2) :: (D2, listOf (ky.named.map fun q => Value.ref q.1).toArray dn2) :: (J1, o1) :: (D1, listOf (kx.named.map fun q => Value.ref q.1).toArray dn1) :: (tb4 ++ (ex3 ++ ex4))) := News.sub N20 fun q hq => by
              exact (by walk_at "mine subs" : ∀ z ∈ _, z ∈ _) q hq
            have off21 : ∀ q ∈ (D3, listOf us.toArray dn4) :: (J2, o2) :: (D2, listOf (ky.named.map fun q => Value.ref q.1).toArray dn2) :: (J1, o1) :: (D1, listOf (kx.named.map fun q => Value.ref q.1).toArray dn1) :: (tb4 ++ (ex3 ++ ex4)), q.1 ≠ D := by
              intro q hq
              simp only [List.mem_cons, List.mem_append] at hq
              rcases hq with h | h | h | h | h | h | h | h
              · rw [h]; exact (o20 _ (List.mem_append_right _ (.tail _ (.tail _ (.head _))))).symm
              · exact offD3 q (by rw [h]; exact .head _)
              · exact offD3 q (by rw [h]; exact .tail _ (.head _))
              · exact offD3 q (by rw [h]; exact .tail _ (.tail _ (.head _)))
              · exact offD3 q (by rw [h]; exact .tail _ (.tail _ (.tail _ (.head _))))
              · exact tab_off ht4.1 N21 (.head _) (by exact rfl) (fun q hq => .tail _ (.tail _ (.tail _ (.tail _ (.tail _ (.tail _ (List.mem_append_left _ hq))))))) q h
              · exact offD3 q (.tail _ (.tail _ (.tail _ (.tail _ (List.mem_append_right _ h)))))
              · obtain ⟨its, n, ho⟩ := hex4 q h
                refine News.off (o := q.2) N21 (.tail _ (.tail _ (.tail _ (.tail _ (.tail _ (.tail _ (List.mem_append_right _ (List.mem_append_right _ h)))))))) (.head _) (fun e => ?_)
                rw [ho] at e; exact tup_ne_list e
            have hul : us.length ≤ 4 ^ d' := by rw [hps4.len]; exact alike_len hbk hbl hik.two hil.two
            have h4d : 4 ^ d' ≤ 4 ^ 6 := Nat.pow_le_pow_right (by decide) (by exact ar367 hd3)
            clear F19 N20 a20
            k_with_none
            k_with "call builtin:list.extend" => (refine stop_here ?_)
            first | (show qk _ _) | (show wpAny _ _ _ _ _ _) | skip
            k_steps
            refine ⟨?_⟩
            rename Fr g L' _ _ => Fa
            rename News g L' _ _ => Na
            k_dflt (refine ext_K Fa Na (.head _) off21 ?_ ?_)
            · rw [hps3.len]; omega
            intro hF nF FF NF
            k_with_none
            try k_fold
            k_steps
            rename Fr g L' _ _ => Fz
            rename News g L' _ _ => Nz
            refine ⟨⟨_, _, _, (D, listOf (vs3 ++ us).toArray nF) :: (J1, o1) :: (D1, listOf (kx.named.map fun q => Value.ref q.1).toArray dn1) :: (tb4 ++ (ex3 ++ ex4)), rfl, Fz, News.sub Nz ?_, ?_, vs3 ++ us, nF, tb4, ex3 ++ ex4, rfl, ht3.trans ht4, ?_, ?_, ?_, some (.ref pq.1), fun z => rfl⟩⟩
            · intro q hq
              exact (by walk_at "mine subs" : ∀ z ∈ _, z ∈ _) q hq
            · intro q hq
              simp only [List.mem_cons, List.mem_append] at hq
              rcases hq with h | h | h | h | h | h
              · rw [h]; exact hoff4 (D, listOf vs3.toArray dn3) (.head _)
              · rw [h]; exact hoff4 _ (.tail _ (.head _))
              · rw [h]; exact hoff4 _ (.tail _ (.tail _ (.head _)))
              · exact (j20 q (List.mem_append_left _ h)).2
              · exact hoff4 _ (.tail _ (.tail _ (.tail _ (List.mem_append_right _ h))))
              · exact (j20 q (List.mem_append_right _ h)).2
            · rw [hstep, hcell, ← List.append_assoc]
              exact (hps3.mono fun q h => List.mem_append_left _ h).append (hps4.mono fun q h => List.mem_append_right _ h)
            · intro q hq
              rcases List.mem_append.mp hq with h | h
              · exact hex3 q h
              · exact hex4 q h
            · intro q hq
              simp only [List.mem_append] at hq
              rcases hq with h | h | h
              · exact (j20 q (List.mem_append_left _ h)).1
              · exact hJ3 q (List.mem_append_right _ h)
              · exact (j20 q (List.mem_append_right _ h)).1
    · rintro m₂ news₂ h14 tk14 ⟨vs3, dn3, tb3, ex3, rfl, ht3, hps3, hex3, hJ3, lv3, hm3⟩ F14 N14
      clear F13 N13
      rw [List.length_map, List.take_length] at hps3
      change Fr g L' _ _ at F14
      change News g L' _ ((D2, listOf (ky.named.map fun q => Value.ref q.1).toArray dn2) :: (D, listOf vs3.toArray dn3) :: (J1, o1) :: (D1, listOf (kx.named.map fun q => Value.ref q.1).toArray dn1) :: (tb3 ++ ex3)) at N14
      try k_fold
      k_steps
      rename Fr g L' _ _ => Fz
      rename News g L' _ _ => Nz
      refine ⟨⟨_, _, _, (D, listOf vs3.toArray dn3) :: (tb3 ++ ex3), rfl, Fz, News.sub Nz ?_, ?_, vs3, dn3, tb3, ex3, rfl, ht3, ?_, hex3, lv3, some (.ref pk.1), fun z => hm3 z⟩⟩
      · intro q hq
        exact (by walk_at "mine subs" : ∀ z ∈ _, z ∈ _) q hq
      · intro q hq
        rcases List.mem_cons.mp hq with h | h
        · rw [h]; exact hoff (D, listOf vs.toArray dn) (.head _)
        · exact hJ3 q h
      · rw [List.take_add_one, hpk, List.flatMap_append]
        simpa using hps3
  · rintro m₁ news₁ h10 tk10 ⟨vs, dn, tb2, ex, rfl, ht2, hps, hex, lv, kv, hm⟩ F10 N10
    clear F9 N9
    rw [List.length_map, List.take_length, ← alike_eq bx] at hps
    have em := funext hm
    subst em
    change Fr g L' _ _ at F10
    change News g L' _ ((D1, listOf (kx.named.map fun q => Value.ref q.1).toArray dn1) :: (D, listOf vs.toArray dn) :: (tb2 ++ ex)) at N10
    try k_fold
    k_steps
    rename Fr g L' _ _ => Fz
    rename News g L' _ _ => Nz
    obtain ⟨z5, z6⟩ := leaveFresh Fz (News.sub (l' := (D, listOf vs.toArray dn) :: (tb2 ++ ex)) Nz fun q hq => .tail _ hq) up
    exact kk _ _ _ _ z5 z6 ⟨D, dn, vs, tb2, ex, rfl, rfl, ht2, hps, hex⟩
theorem alike_ (d : Nat) : AlikeSpec d := by
  induction d with
  | zero => exact @alike_S 0 (fun _ h => absurd h (by exact ar355))
  | succ d ih =>
    refine @alike_S (d + 1) fun d' h => ?_
    obtain rfl : d' = d := by exact ar356 h
    exact @ih
end
section
-- G2
open PySem.Spec
theorem fillG2 : ∀ P : Params, (hd.heap_39 P) = hd.heap_39 P ∧ PySem.Challenge.rw_og0075_01 = PySem.Challenge.rw_og0075_01 := by
  k_fill
  intro P; exact ⟨rfl, rfl⟩
local macro_rules | `(tactic| walk_at "execs cons") => `(tactic| (k_here; dsimp only; k_gentoks))
local macro_rules | `(tactic| walk_at "execs nil") => `(tactic| (k_here; dsimp only; k_gentoks))
local macro_rules | `(tactic| walk_at $s:str) => `(tactic| k_extra $s)
inductive WaysI (x u : Addr) (us : List Value) (un : Nat) (k : G) (w0 : List Str) (i : Nat) (m : Str → Option Value) (news : List (Addr × Obj)) : Prop
  | mk : ∀ D dn vs ex, (news = (D, listOf vs.toArray dn) :: (u, tupOf us.toArray un) :: ex) → (WaysL ex vs ((k.nodes.take i).flatMap (wayCell w0))) → ((∀ q ∈ ex, IsTupO q.2)) → ∀ hv kv : Option Value, (∀ z, m z = if z = Str.ofString "has_kids" then hv else if z = Str.ofString "kid" then kv else if z = Str.ofString "found" then some (.ref D) else [(Str.ofString "way", Value.ref u), (Str.ofString "item", Value.ref x)].lookup z) → WaysI x u us un k w0 i m news
theorem ways_S (d : Nat) (ihd : ∀ d', d = d' + 1 → WaysSpec d') : WaysSpec d := by
  intro prog w A s p loose mean mg mb hB x u n k par us un w0 X T st hx hk hz hb hus hul hd3 hdp hh hu hU
  intro Q E kk
  have hH : ∀ q ∈ [(u, tupOf us.toArray un)], s.heap.get? q.1 = some q.2 ∧ hB.get? q.1 = none := by
    intro q hq; rw [List.mem_singleton.mp hq]; exact hU
  have hroom : A.depth < recursionLimit := by exact ar342 hdp hd3
  refine' enterF (binds := [(Str.ofString "item", .ref x), (Str.ofString "way", .ref u)]) (rb := [(Str.ofString "way", .ref u), (Str.ofString "item", .ref x)]) X T st hH hroom ?ho ?hcd ?hb ?hl ?hr ?_ ?c2 ?c3 ?c4 ?c5
  case ho => k_is
  case hcd => k_is
  case hb => exact BindsTo.of_eq rfl
  case hl => exact locs rfl
  case hr => exact rfl
  case c2 => exact rfl
  case c3 => exact rfl
  case c4 => exact rfl
  case c5 => decide
  intro g L' h₁ F1 N1 X1 T1 st1 up dn
  have hkg := hk.mono (has' := fun a o => g.get? a = some o) st1
  obtain ⟨dx, kl, cl, tk, occ, en, kn, cn, h1, h2, h3, h4, h5⟩ := hx
  have hI : PySem.W.InstAt g x (instObj 88 dx) 88 (some (dictOf (nodeEs w.params tk n occ cl kl par) en)) := ⟨st1 _ _ h1, rfl, rfl, st1 _ _ h2⟩
  k_with "exec For Name Attribute cons nil" => (refine stop_here ?_)
  k_with "newList" => (k_here; k_dflt (refine' newList_K ?k1 ?k2 ?_; (case k1 => k_asm); (case k2 => k_asm); k_whole); intro D hD FD ND lD; (try k_sweep))
  try k_fold
  k_steps
  refine ⟨?_⟩
  refine For_invV g rfl rfl ?_
  k_with_none
  k_with "pyIter ref" => (refine stop_here ?_)
  try k_fold
  k_steps
  refine ⟨?_⟩
  rename Fr g L' _ _ => F7
  rename News g L' _ _ => N7
  k_with_none
  with_unfolding_all refine for_listH (D := kl) (vs := k.tops.map Value.ref) (WaysI x u us un k w0) hh ⟨_, st1 _ _ h4, rfl, kn, rfl⟩ F7 N7 ⟨D, 0, [], [], rfl, .nil, (fun _ h => nomatch h), none, none, fun z => ?_⟩ ?_ ?_
  · by_cases z1 : z = Str.ofString "has_kids"
    · subst z1; with_unfolding_all rfl
    · by_cases z2 : z = Str.ofString "kid"
      · subst z2; with_unfolding_all rfl
      · simp only [if_neg z1, if_neg z2]
  · rintro i v m₁ news₁ h9 tk9 J1 o1 hv hJ ⟨D2, dn, vs, ex, rfl, hws, hex, hvl, kvl, hm⟩ hoff F9 N9
    obtain ⟨y, hy, rfl⟩ : ∃ y, k.tops[i]? = some y ∧ v = .ref y := by
      rw [List.getElem?_map] at hv
      obtain ⟨y, h1, h2⟩ := Option.map_eq_some_iff.mp hv
      exact ⟨y, h1, h2.symm⟩
    obtain ⟨ny, ky, hny⟩ := nodeAt_of_top hy
    have hny' := hny
    rw [nodes_at] at hny'
    have hmem := List.mem_of_getElem? hny'
    obtain ⟨d', rfl⟩ : ∃ d', d = d' + 1 := by
      cases d with
      | zero =>
        cases k with
        | nil => cases hmem
        | cons _ _ _ _ => exact hb.elim
      | succ d => exact ⟨d, rfl⟩
    obtain ⟨hyn, hyk⟩ := nodes_kids hkg _ hmem
    obtain ⟨hz2, hb2⟩ := nodes_bd hb _ hmem
    have hyn0 := hyn
    dsimp only at hyn hyn0 hyk hz2 hb2
    have em : (fun z => if z = Str.ofString "kid" then some (Value.ref y) else m₁ z) = fun z => if z = Str.ofString "has_kids" then hvl else if z = Str.ofString "kid" then some (Value.ref y) else if z = Str.ofString "found" then some (.ref D2) else [(Str.ofString "way", Value.ref u), (Str.ofString "item", Value.ref x)].lookup z := by
      funext z
      by_cases z1 : z = Str.ofString "has_kids"
      · subst z1; rw [hm]; with_unfolding_all rfl
      · by_cases z2 : z = Str.ofString "kid"
        · simp only [if_neg z1, if_pos z2]
        · simp only [if_neg z1, if_neg z2]; rw [hm]; simp only [if_neg z1, if_neg z2]
    rw [em] at F9
    clear em
    change Fr g L' _ _ at F9
    change News g L' _ ((J1, o1) :: (D2, listOf vs.toArray dn) :: (u, tupOf us.toArray un) :: ex) at N9
    clear F7 N7 hv
    have hstep : (k.nodes.take (i + 1)).flatMap (wayCell w0) = (k.nodes.take i).flatMap (wayCell w0) ++ wayCell w0 (y, ny, ky) := by
      rw [List.take_add_one, hny']; simp
    -- a kid that is passed over
    have skip : ∀ (h' : Heap) (tk' : Nat) (s₁ : Shared), ny.can = false → Fr g L' h' (fun z => if z = Str.ofString "has_kids" then hvl else if z = Str.ofString "kid" then some (Value.ref y) else if z = Str.ofString "found" then some (.ref D2) else [(Str.ofString "way", Value.ref u), (Str.ofString "item", Value.ref x)].lookup z) → News g L' h' ((J1, o1) :: (D2, listOf vs.toArray dn) :: (u, tupOf us.toArray un) :: ex) →
      TurnOk g L' J1 [(J1, o1)] (WaysI x u us un k w0 (i + 1)) s₁ { s₁ with heap := h', toks := tk' } := by
      intro h' tk' s₁ hc F N
      refine ⟨_, _, _, _, rfl, F, N, hoff, D2, dn, vs, ex, rfl, ?_, hex, hvl, some (.ref y), fun z => rfl⟩
      rw [hstep]
      unfold wayCell
      rw [if_neg (by rw [hc]; decide), List.append_nil]
      exact hws
    obtain ⟨dy, kly, cly, tky, occy, eny, kny, cny, y1, y2, y3, y4, y5⟩ := hyn
    have hIy : PySem.W.InstAt g y (instObj 88 dy) 88 (some (dictOf (nodeEs w.params tky ny occy cly kly (.ref x)) eny)) := ⟨y1, rfl, rfl, y2⟩
    cases eo : ny.occ with
    | true =>
      rw [eo] at y5
      obtain ⟨o, od, tko, eno, rfl, o1, o2⟩ := y5
      have hc : ny.can = false := by unfold Nd.can; simp [eo]
      try k_fold
      k_steps
      all_goals exact ⟨skip _ _ _ hc (by assumption) (by assumption)⟩
    | false =>
      rw [eo] at y5
      have y5' : occy = .none := y5
      subst y5'
      k_with "pyIter ref" => (refine stop_here ?_)
      try k_fold
      k_steps
      · rename (ny.nm == Str.ofString "FILLER") = true => z1
        exact ⟨skip _ _ _ (by unfold Nd.can; simp only [beq_iff_eq] at z1; simp [z1]) (by assumption) (by assumption)⟩
      · rename (ny.rd != Str.ofString "") = true => z1
        exact ⟨skip _ _ _ (by unfold Nd.can; simp only [bne_iff_ne] at z1; simp [z1]) (by assumption) (by assumption)⟩
      · rename (ny.us == Str.ofString "index") = true => z1
        exact ⟨skip _ _ _ (by unfold Nd.can; simp only [beq_iff_eq] at z1; simp [z1]) (by assumption) (by assumption)⟩
      · rename ny.lvl = 66 => z1
        exact ⟨skip _ _ _ (by unfold Nd.can; simp [z1]) (by assumption) (by assumption)⟩
      rename (ny.nm == Str.ofString "FILLER") = false => z1
      rename (ny.rd != Str.ofString "") = false => z2
      rename (ny.us == Str.ofString "index") = false => z3
      rename ny.lvl ≠ 66 => z4
      have hc : ny.can = true := by
        unfold Nd.can
        simp only [beq_eq_false_iff_ne, bne_eq_false_iff_eq] at z1 z2 z3
        simp [z1, z2, z3, z4, eo]
      clear skip
      refine ⟨?_⟩
      rename Fr g L' _ _ => F10
      rename News g L' _ _ => N10
      k_with_none
      k_dflt (refine comp_srcH (vs := ky.tops.map Value.ref) (GrpN ky _) hh F10 X1 T1 N10 ⟨_, y4, rfl, kny, rfl⟩ (by decide) rfl ⟨rfl, Nat.le_refl _, Nat.zero_le _, by simp⟩ (fun i _ _ h => by rw [sizeLine_eq]; have := h.2.2.1; have := h.2.1; omega) ?_ ?_)
      · intro g2 C D3 J2 i2 v2 m2 acc2 dn2 news2 h12 tk12 o12 X12 T12 S12 up12 lt12 lj12 hv2 I12 a12 F12 N12
        obtain ⟨y2, hy2, rfl⟩ : ∃ y, ky.tops[i2]? = some y ∧ v2 = .ref y := by
          rw [List.getElem?_map] at hv2
          obtain ⟨y, h1, h2⟩ := Option.map_eq_some_iff.mp hv2
          exact ⟨y, h1, h2.symm⟩
        obtain ⟨n2, k2, hn2⟩ := nodeAt_of_top hy2
        obtain ⟨dz, klz, clz, tkz, occz, enz, knz, cnz, w1, w2, w3, w4, w5⟩ := (nodeAt_kids hyk hn2).1
        have hIz : PySem.W.InstAt g2 y2 (instObj 88 dz) 88 (some (dictOf (nodeEs w.params tkz n2 occz clz klz (.ref y)) enz)) := ⟨S12 _ _ w1, rfl, rfl, S12 _ _ w2⟩
        obtain ⟨e12, b1, b2, b3⟩ := I12
        subst e12
        have hi1 : i2 + 1 ≤ ky.tops.length := (List.getElem?_eq_some_iff.mp hy2).1
        refine turn_name rfl rfl F12 N12 fun h13 F13 N13 => turn_if1 ?_
        clear F12 N12
        k_steps
        · rename n2.lvl ≠ 66 => hne
          rename Fr g2 C _ _ => F9
          rename News g2 C _ _ => N9
          refine ⟨⟨_, _, _, _, rfl, F9, N9, a12, rfl, by rw [List.length_append]; show acc2.length + 1 ≤ i2 + 1; exact ar343 b1, hi1, ⟨fun e => ?_, fun e => absurd (e i2 (Nat.lt_succ_self _) _ _ _ hn2) hne⟩⟩⟩
          simp at e
        · rename n2.lvl = 66 => he
          rename Fr g2 C _ _ => F9
          rename News g2 C _ _ => N9
          refine ⟨⟨_, _, _, _, rfl, F9, N9, a12, rfl, Nat.le_succ_of_le b1, hi1, b3.trans ⟨fun e j hj y' n' ks' hn' => ?_, fun e j hj => e j (Nat.lt_succ_of_lt hj)⟩⟩⟩
          rcases Nat.lt_or_ge j i2 with q | q
          · exact e j q _ _ _ hn'
          · have : j = i2 := by exact ar344 hj q
            subst this
            rw [hn2] at hn'; cases hn'; exact he
      · intro h2'' J3 _ F10' lt' o3
        refine fin_eval ?_
        intro D3 h13 tk13 acc3 dn3 news' hI13 F13 N13 lt13
        clear F10' F10 N10
        have hgrp := grpN_end hI13
        obtain ⟨e13, b1, b2, b3⟩ := hI13
        subst e13
        rw [List.nil_append] at N13
        k_with_none
        k_with "call builtin:len" => (refine stop_here ?_)
        try k_fold
        k_steps
        refine ⟨?_⟩
        rename Fr g L' _ _ => F14
        rename News g L' _ _ => N14
        refine len_of N14 (.head _) (by have := b2; omega) ?_
        k_with_none
        k_with "binaryOp Add ref ref" => (refine stop_here ?_)
        k_with "newTuple" => (k_here; k_dflt (refine' kup_newTuple ?F ?N ?_ ?z; (case F => k_asm); (case N => k_asm); (case z => kmk_size)); intro b1 hb1 Fb1 Nb1 lb1; (try k_sweep))
        first | (show qk _ _) | (show wpAny _ _ _ _ _ _) | skip
        k_steps
        refine ⟨?_⟩
        rename Fr g L' _ _ => F15
        rename News g L' _ _ => N15
        have lb1' : ∀ q ∈ (J1, o1) :: (D2, listOf vs.toArray dn) :: (u, tupOf us.toArray un) :: ex, @LT.lt Nat _ q.1 b1 := fun q hq => lb1 q (.tail _ hq)
        refine snoc_tup (v := .str ny.nm (tky 3)) (bn := 0) (led := (J1, o1) :: (D2, listOf vs.toArray dn) :: (u, tupOf us.toArray un) :: ex) F15 (News.sub N15 ?_) (.tail _ (.tail _ (.head _))) lb1' (by exact ar346 hul) ?_
        · intro q hq
          rcases List.mem_cons.mp hq with h | h
          · rw [h]; exact .head _
          · exact .tail _ (.tail _ h)
        intro W1 wn1 h16 F16 N16 lW1
        clear N15 F15
        k_with_none
        k_with "call builtin:list.append" => (refine stop_here ?_)
        k_with "newTuple" => (k_here; k_dflt (refine' kup_newTuple ?F ?N ?_ ?z; (case F => k_asm); (case N => k_asm); (case z => kmk_size)); intro TA hTA FTA NTA lTA; (try k_sweep))
        first | (show qk _ _) | (show wpAny _ _ _ _ _ _) | skip
        k_steps
        refine ⟨?_⟩
        rename Fr g L' _ _ => F17
        rename News g L' _ _ => N17
        have hgrp' : decide (0 < (acc3.length : Int)) = ky.group := hgrp
        rw [hgrp'] at F17 N17
        have NA : News g L' hTA ((D2, listOf vs.toArray dn) :: (TA, tupOf #[.ref W1, .ref y, .bool ky.group] 0) :: (W1, tupOf (us ++ [Value.str ny.nm (tky 3)]).toArray wn1) :: (J1, o1) :: (u, tupOf us.toArray un) :: ex) := News.sub N17 fun q hq => by
          exact (by walk_at "mine subs" : ∀ z ∈ _, z ∈ _) q hq
        have hvs : vs.length < 10000 := by
          rw [hws.len]
          refine Nat.lt_of_le_of_lt (len_flatMap (c := 100) fun p hp => ?_) (Nat.lt_of_le_of_lt (Nat.mul_le_mul_right 100 (Nat.le_trans (List.length_take_le' _ _) (nodes_two hz))) (by decide))
          have hpb := nodes_bd hb p (List.mem_of_mem_take hp)
          unfold wayCell
          split
          · have h1 := ways_len (w := w0 ++ [p.2.1.nm]) hpb.2 hpb.1
            have h2 : wayMax d' ≤ 14 := by
              have : d' = 0 ∨ d' = 1 ∨ d' = 2 := by exact ar347 hd3
              rcases this with e | e | e <;> subst e <;> decide
            rw [List.length_cons]; exact ar348 h2 h1
          · exact Nat.zero_le _
        refine append_K (its := vs.toArray) (n := dn) (x := .ref TA) F17 NA (Upd.head ?_) ?_ (by rw [List.size_toArray, sizeLine_eq]; exact ar294 hvs)
        · intro q hq
          simp only [List.mem_cons] at hq
          rcases hq with h | h | h | h | h
          · rw [h]; exact News.off N17 (.head _) (.tail _ (.tail _ (.tail _ (.head _)))) fun e => tup_ne_list e
          · rw [h]; exact News.off N17 (.tail _ (.head _)) (.tail _ (.tail _ (.tail _ (.head _)))) fun e => tup_ne_list e
          · rw [h]; exact (hoff (D2, listOf vs.toArray dn) (.head _)).symm
          · rw [h]; exact News.off N17 (.tail _ (.tail _ (.tail _ (.tail _ (.head _))))) (.tail _ (.tail _ (.tail _ (.head _)))) fun e => tup_ne_list e
          · obtain ⟨its, n, ho⟩ := hex q h
            exact News.off (o := q.2) N17 (.tail _ (.tail _ (.tail _ (.tail _ (.tail _ h))))) (.tail _ (.tail _ (.tail _ (.head _)))) fun e => by rw [ho] at e; exact tup_ne_list e
        intro h18 F18 N18
        have ea : vs.toArray.push (.ref TA) = (vs ++ [Value.ref TA]).toArray := by simp
        rw [ea] at N18
        clear NA N17 F17
        k_with_none
        k_with "binaryOp Add ref ref" => (refine stop_here ?_)
        k_with "newTuple" => (k_here; k_dflt (refine' kup_newTuple ?F ?N ?_ ?z; (case F => k_asm); (case N => k_asm); (case z => kmk_size)); intro c1 hc1 Fc1 Nc1 lc1; (try k_sweep))
        first | (show qk _ _) | (show wpAny _ _ _ _ _ _) | skip
        try k_fold
        k_steps
        refine ⟨?_⟩
        rename Fr g L' _ _ => F19
        rename News g L' _ _ => N19
        refine snoc_tup (v := .str ny.nm (tky 3)) (bn := 0) (led := (D2, listOf (vs ++ [Value.ref TA]).toArray (dn + 1)) :: (TA, tupOf #[.ref W1, .ref y, .bool ky.group] 0) :: (W1, tupOf (us ++ [Value.str ny.nm (tky 3)]).toArray wn1) :: (J1, o1) :: (u, tupOf us.toArray un) :: ex) F19 N19 (.tail _ (.tail _ (.tail _ (.tail _ (.head _))))) lc1 (by exact ar346 hul) ?_
        intro W2 wn2 h20 F20 N20 lW2
        clear N19 F19
        k_with_none
        k_with "call ref" => ((with_reducible show wpAny _ _ (call (Value.ref 163) _ _) _ _ _); refine stop_here ?_)
        first | (show qk _ _) | (show wpAny _ _ _ _ _ _) | skip
        k_steps
        refine ⟨?_⟩
        rename Fr g L' _ _ => F21
        rename News g L' _ _ => N21
        have IH : WaysSpec d' := @ihd d' rfl
        have hW2 := N21 _ (.head _)
        have nW2 : ∀ q ∈ (D2, listOf (vs ++ [Value.ref TA]).toArray (dn + 1)) :: (TA, tupOf #[.ref W1, .ref y, .bool ky.group] 0) :: (W1, tupOf (us ++ [Value.str ny.nm (tky 3)]).toArray wn1) :: (J1, o1) :: (u, tupOf us.toArray un) :: ex, q.1 ≠ W2 := fun q hq e => Nat.lt_irrefl _ (e ▸ lW2 q hq)
        k_dflt (refine Does.use (ws := [(W2, tupOf (us ++ [Value.str ny.nm (tky 3)]).toArray wn2)]) (rest := (D2, listOf (vs ++ [Value.ref TA]).toArray (dn + 1)) :: (TA, tupOf #[.ref W1, .ref y, .bool ky.group] 0) :: (W1, tupOf (us ++ [Value.str ny.nm (tky 3)]).toArray wn1) :: (J1, o1) :: (u, tupOf us.toArray un) :: ex) (@IH _ _ _ _ _ _ _ _ _ _ _ _ _ _ _ _ _ (w0 ++ [ny.nm]) X1 T1 (fun b o e => F21.keep b o e) hyn0 hyk hz2 hb2 (hus.append (.cons .nil)) ?_ (by exact ar349 hd3) ?_ hh ?_ ⟨hW2.1, hW2.2.2⟩) F21 N21 ?_ ?_ ?_)
        · rw [List.length_append]; show us.length + 1 + d' ≤ 7; exact ar350 hul
        · show A.depth + 1 + 2 * d' + 12 < recursionLimit; exact ar351 hdp
        · show A.units + 3 + 3 * d' + 3 < 1000; exact ar352 hu
        · intro a ha
          rw [List.mem_singleton.mp ha]; exact ⟨_, .head _⟩
        · intro q hq hm
          exact nW2 q hq (List.mem_singleton.mp hm)
        rintro r22 h22 tk22 tl22 F22 N22 a22 ⟨D5, dn5, vs5, ex5, rfl, rfl, hws5, hex5⟩
        have o22 : ∀ q ∈ (D5, listOf vs5.toArray dn5) :: (W2, tupOf (us ++ [Value.str ny.nm (tky 3)]).toArray wn2) :: ex5, ∀ p ∈ (D2, listOf (vs ++ [Value.ref TA]).toArray (dn + 1)) :: (TA, tupOf #[.ref W1, .ref y, .bool ky.group] 0) :: (W1, tupOf (us ++ [Value.str ny.nm (tky 3)]).toArray wn1) :: (J1, o1) :: (u, tupOf us.toArray un) :: ex, p.1 ≠ q.1 := by
          intro q hq p hp
          rcases a22 q hq with z | z
          · rw [List.mem_singleton.mp z]; exact nW2 p hp
          · exact z p (List.mem_append_right _ hp)
        clear F21 N21 a22
        k_with_none
        k_with "binaryOp Add ref ref" => (refine stop_here ?_)
        first | (show qk _ _) | (show wpAny _ _ _ _ _ _) | skip
        try k_fold
        k_steps
        refine ⟨?_⟩
        rename Fr g L' _ _ => F23
        rename News g L' _ _ => N23
        have hvs5 : vs5.length < 10000 := by
          rw [hws5.len]
          have h1 := ways_len (w := w0 ++ [ny.nm]) hb2 hz2
          have h2 : wayMax d' ≤ 14 := by
            have : d' = 0 ∨ d' = 1 ∨ d' = 2 := by exact ar347 hd3
            rcases this with e | e | e <;> subst e <;> decide
          exact ar353 h2 h1
        k_dflt (refine kmk_add_lit (zs := (vs ++ [Value.ref TA]) ++ vs5) F23 N23 (News.isList N23 (List.mem_append_right _ (.head _))) (News.isList N23 (List.mem_append_left _ (.head _))) (by simp) ?_ (by rw [sizeLine_eq]; simp only [List.toList_toArray, List.length_append, List.length_cons, List.length_nil]; exact ar354 hvs5 hvs))
        intro D6 h24 F24 N24 lD6
        clear F23
        k_with_none
        try k_fold
        k_steps
        rename Fr g L' _ _ => Fz
        rename News g L' _ _ => Nz
        have hlast : WaysL ((TA, tupOf #[.ref W1, .ref y, .bool ky.group] 0) :: (W1, tupOf (us ++ [Value.str ny.nm (tky 3)]).toArray wn1) :: (W2, tupOf (us ++ [Value.str ny.nm (tky 3)]).toArray wn2) :: (ex ++ ex5)) (vs ++ [Value.ref TA] ++ vs5) ((k.nodes.take (i + 1)).flatMap (wayCell w0)) := by
          rw [hstep]
          have hcell : wayCell w0 (y, ny, ky) = (w0 ++ [ny.nm], y, ky.group) :: ky.ways (w0 ++ [ny.nm]) := by
            unfold wayCell
            rw [if_pos hc]
          rw [hcell, List.append_assoc]
          refine (hws.mono fun q h => .tail _ (.tail _ (.tail _ (List.mem_append_left _ h)))).append ?_
          exact .cons (.head _) (.tail _ (.head _)) (hus.append (.cons .nil)) (hws5.mono fun q h => .tail _ (.tail _ (.tail _ (List.mem_append_right _ h))))
        refine ⟨⟨_, _, _, (D6, listOf (vs ++ [Value.ref TA] ++ vs5).toArray 0) :: (u, tupOf us.toArray un) :: ((TA, tupOf #[.ref W1, .ref y, .bool ky.group] 0) :: (W1, tupOf (us ++ [Value.str ny.nm (tky 3)]).toArray wn1) :: (W2, tupOf (us ++ [Value.str ny.nm (tky 3)]).toArray wn2) :: (ex ++ ex5)), rfl, Fz, News.sub Nz ?_, ?_, D6, 0, vs ++ [Value.ref TA] ++ vs5, _, rfl, hlast, ?_, some (.bool ky.group), some (.ref y), fun z => ?_⟩⟩
        · intro q hq
          exact (by walk_at "mine subs" : ∀ z ∈ _, z ∈ _) q hq
        · intro q hq
          simp only [List.mem_cons, List.mem_append] at hq
          have lJ : @LT.lt Nat _ J1 D6 := lD6 (J1, o1) (List.mem_append_right _ (.tail _ (.tail _ (.tail _ (.head _)))))
          have lJ1 : @LT.lt Nat _ J1 W1 := lW1 _ (.head _)
          have lJ2 : @LT.lt Nat _ J1 TA := lTA _ (.tail _ (.head _))
          have lJ3 : @LT.lt Nat _ J1 W2 := lW2 _ (.tail _ (.tail _ (.tail _ (.head _))))
          rcases hq with h | h | h | h | h | h | h
          · rw [h]; exact Nat.ne_of_gt lJ
          · rw [h]; exact hoff _ (.tail _ (.head _))
          · rw [h]; exact Nat.ne_of_gt lJ2
          · rw [h]; exact Nat.ne_of_gt lJ1
          · rw [h]; exact Nat.ne_of_gt lJ3
          · exact hoff q (.tail _ (.tail _ h))
          · exact (o22 q (.tail _ (.tail _ h)) (J1, o1) (.tail _ (.tail _ (.tail _ (.head _))))).symm
        · intro q hq
          simp only [List.mem_cons, List.mem_append] at hq
          rcases hq with h | h | h | h | h
          · rw [h]; exact ⟨_, _, rfl⟩
          · rw [h]; exact ⟨_, _, rfl⟩
          · rw [h]; exact ⟨_, _, rfl⟩
          · exact hex q h
          · exact hex5 q h
        · by_cases z1 : z = Str.ofString "has_kids"
          · subst z1; with_unfolding_all rfl
          · by_cases z2 : z = Str.ofString "kid"
            · subst z2; with_unfolding_all rfl
            · by_cases z3 : z = Str.ofString "found"
              · simp only [if_neg z1, if_neg z2, if_pos z3]
              · simp only [if_neg z1, if_neg z2, if_neg z3]
  · rintro m₁ news₁ h10 tk10 ⟨D2, dn, vs, ex, rfl, hws, hex, hvl, kvl, hm⟩ F10 N10
    clear F7 N7
    rw [List.length_map, ← nodes_len, List.take_length, ← ways_eq] at hws
    have em := funext hm
    subst em
    change Fr g L' _ _ at F10
    change News g L' _ ((D2, listOf vs.toArray dn) :: (u, tupOf us.toArray un) :: ex) at N10
    try k_fold
    k_steps
    rename Fr g L' _ _ => Fz
    rename News g L' _ _ => Nz
    obtain ⟨z5, z6⟩ := leaveFresh Fz Nz up
    exact kk _ _ _ _ z5 z6 ⟨D2, dn, vs, ex, rfl, rfl, hws, hex⟩

theorem ways_ (d : Nat) : WaysSpec d := by
  induction d with
  | zero => exact @ways_S 0 (fun _ h => absurd h (by exact ar355))
  | succ d ih =>
    refine @ways_S (d + 1) fun d' h => ?_
    obtain rfl : d' = d := by exact ar356 h
    exact @ih
end
section
-- H1
open PySem.Spec
theorem enterFC {prog : Program} {w : World} {A : Around} {E : Value → Shared → Prop} {Q : Value → Shared → Prop} {s : Shared} {hB : Heap} {p : Program} {loose : List Str} {mean : ExcName → Option Value} {mg mb : Str → Option Value}
    {K : Frag} {f : Addr} {pos : List Value} {kw : List (Str × Value)} {binds : List (Str × Value)} {name qual : Str} {params : Arguments} {body : List Stmt} {scope : Scope} {dV kV doc pm cdv ct oc : Value} {an od : Option Addr} {osl : Array (Option Value)} {H : List (Addr × Obj)}
    (X : K.In hB) (T : Top p loose mean mg mb hB) (st : hB.StaysIn s.heap) (hH : ∀ q ∈ H, s.heap.get? q.1 = some q.2 ∧ hB.get? q.1 = none)
    (hroom : A.depth < recursionLimit)
    (ho : K.lookup f = some ⟨oc, od, .func (fnOf name qual params body scope dV kV doc pm an cdv ct), osl⟩) (hcd : codeIn K cdv qual = true)
    (hbind : BindsTo s (fnOf name qual params body scope dV kV doc pm an cdv ct) ⟨pos, kw⟩ binds) (hkind : (binds.all fun y => scope.names.lookup y.1 == some .local || scope.names.lookup y.1 == some .cell) = true)
    (hnd : ((cellsFrom 0 scope.names []).map (·.1)).Nodup)
    (h : ∀ g L' h₁ tk cells, Fr g L' h₁ (bindL (envOfC qual scope L' f cdv).kindOf binds fun _ => none) → News g L' h₁ (cells ++ H) →
      CellsAre (bindC (envOfC qual scope L' f cdv).kindOf binds fun _ => none) (cellsFrom (L' + 1) scope.names []) cells → (∀ q ∈ H, @LT.lt Nat _ q.1 L') → K.In g → Top p loose mean mg mb g → hB.StaysIn g →
      (∀ b o, b ∉ H.map (·.1) → s.heap.get? b = some o → g.get? b = some o) → g.StaysIn s.heap →
      wpAny (model prog w) (A.deeper (envOfC qual scope L' f cdv)) (execs body (envOfC qual scope L' f cdv))
        (fun fl s' => Q (match fl with | .ret v => v | _ => .none) s') (fun _ _ => False) { s with heap := h₁, toks := tk })
    (hco : scope.isCoroutine = false) (hgen : scope.isGenerator = false) (hk : scope.kind = .function) :
    wpAny (model prog w) A (call (.ref f) pos kw) Q E s := by
  refine wpAny_call (codeAny_call_function hroom (st _ _ (X _ _ ho)) rfl hco hgen rfl (codeRec_of (X.keeps st) hcd) (hbind _ _ _ _ ?_))
  have nm : ∀ b o, hB.get? b = some o → b ∉ H.map (·.1) := fun b o e q => by
    obtain ⟨p, hp, rfl⟩ := List.mem_map.mp q
    rw [(hH p hp).2] at e; cases e
  have st' : hB.StaysIn (hideAll s.heap (H.map (·.1))) := fun b o e => hideAll_get _ (st b o e) (nm b o e)
  refine wpAny_newFunctionEnv_cells hk (kindsX hkind _) fun env' he s' x => ?_
  subst he
  refine ⟨(T.nolimit.keeps st).keeps x.toInCall.keep, codeAny_func ?_⟩
  obtain ⟨h₁, tk, rfl, _⟩ := x.done
  have hk₁ := x.toInCall.keep
  obtain ⟨cells, NC, Y⟩ := Cl.news (h₀ := s.heap) (Nat.le_refl _) fun n c hm => ⟨x.cell n c (lookup_of_mem_nodup (cellsFrom_names scope.names 0 (s.heap.objs.size + 1) [] [] rfl ▸ hnd) hm), x.above n c hm⟩
  refine wpAny_mono (h (hideAll s.heap (H.map (·.1))) s.heap.objs.size h₁ tk cells ⟨x.toInCall.ns, fun b o e => hk₁ b o (of_hideAll _ e), Nat.le_of_eq (hideAll_size _ _)⟩ (fun p hp => ?_) Y (fun q hq => Heap.lt_size (hH q hq).1) (X.keeps fun b o e => st' b o e) (T.keeps fun b o e => st' b o e) st'
    (fun b o hb e => hideAll_get _ e hb) (fun b o e => of_hideAll _ e)) (fun fl s' hl => hl) (fun _ _ e => e.elim)
  rcases List.mem_append.mp hp with hp | hp
  · refine ⟨(NC p hp).1, (NC p hp).2.1, ?_⟩
    cases q : (hideAll s.heap (H.map (·.1))).get? p.1 with
    | none => rfl
    | some o => have := of_hideAll _ q; rw [(NC p hp).2.2] at this; cases this
  · exact ⟨hk₁ _ _ (hH p hp).1, Nat.ne_of_lt (Heap.lt_size (hH p hp).1), hideAll_none _ (List.mem_map_of_mem hp)⟩
end
section
-- H2
open PySem.Spec
section
variable {prog : Program} {w : World} {A : Around} {E : Value → Shared → Prop} {s : Shared} {env : Env} {h₀ : Heap} {body : List Stmt} {Q : Flow → Shared → Prop}
/-- a for over a list of the ledger whose items are told apart by a tuple target -/
theorem forT_listN {elts : List Expr} {x1 : Nat} {tpos pos : Pos} {iter : Expr} {D : Addr} {vs : List Value} {dn : Nat} {m₀ : Str → Option Value} {news : List (Addr × Obj)} (I : Nat → (Str → Option Value) → List (Addr × Obj) → Prop)
    (hh : A.handled = none) (hit : ∀ (Q' : Value → Shared → Prop) (E' : Value → Shared → Prop), Q' (.ref D) s → wpAny (model prog w) A (eval iter env) Q' E' s) (F : Fr h₀ env.locals s.heap m₀) (N : News h₀ env.locals s.heap ((D, listOf vs.toArray dn) :: news)) (h0 : I 0 m₀ news)
    (turn : ∀ i v m₁ news₁ h tk J o, vs[i]? = some v → @LT.lt Nat _ D J → (∀ p ∈ news, @LT.lt Nat _ p.1 J) → I i m₁ news₁ → (∀ p ∈ news₁, p.1 ≠ J) → Fr h₀ env.locals h m₁ → News h₀ env.locals h ((J, o) :: (D, listOf vs.toArray dn) :: news₁) →
      (∃ t, v = .ref t) ∧ wpAny (model prog w) A (assign (.Tuple elts x1 tpos) env v) (fun _ s₂ => wpAny (model prog w) A (execs body env) (TurnEnds h₀ env.locals J [(J, o), (D, listOf vs.toArray dn)] (I (i + 1)) { s with heap := h, toks := tk } Q) NoE s₂) NoE { s with heap := h, toks := tk })
    (done : ∀ m₁ news₁ h tk, I vs.length m₁ news₁ → Fr h₀ env.locals h m₁ → News h₀ env.locals h ((D, listOf vs.toArray dn) :: news₁) → Q .next { s with heap := h, toks := tk })
    (hs : ∀ x, foldedSetIterable iter env x = pure x := by intro _; rfl) :
    wpAny (model prog w) A (exec (.For (.Tuple elts x1 tpos) iter body [] pos) env) Q E s := by
  refine wpAny_For (hit _ _ ?_) hs
  have hls : s.heap.IsList D vs.toArray := N.isList (.head _)
  have hD := N _ (.head _)
  have hne : D ≠ s.heap.objs.size := Nat.ne_of_lt (Heap.lt_size hD.1)
  have hDL : D ≠ env.locals := hD.2.1
  refine wpAny_pyIter_list hls ?_
  have W := Walks.list (prog := prog) (w := w) hh s.heap.objs.size D hne vs.toArray
  rw [List.size_toArray] at W
  have key : ∀ J : Addr, s.heap.objs.size = J → D ≠ J → Walks prog w A J [J, D] [J] vs.length (fun i v => vs.toArray[i]? = some v) (fun i h => h.IsListIter J D i ∧ h.IsList D vs.toArray) →
      codeAny (model prog w) A (.forLoop (.Tuple elts x1 tpos) (.ref J) body [] env) (fun r s' => match r with | .ok f => Q f s' | .error e => cameBackBy (model prog w) A env E e s') { s with heap := s.heap.push { cls := .type "list_iterator", data := .fields #[Value.ref D, Value.int 0 0] } } := ?_
  · exact key _ rfl hne W
  clear W hne
  intro J hJ hne W
  have hJ0 : h₀.get? J = none := hJ ▸ next_is_new F
  have hLJ : env.locals ≠ J := Nat.ne_of_lt (hJ ▸ F.ns.lt)
  have hlt : ∀ p ∈ (D, listOf vs.toArray dn) :: news, @LT.lt Nat _ p.1 J := fun p hp => hJ ▸ Heap.lt_size (N p hp).1
  refine codeAny_forLoop_any
    (fun k s' => ∃ h' tk m' news' o i, s' = { s with heap := h', toks := tk } ∧ (h'.IsListIter J D i ∧ h'.IsList D vs.toArray) ∧ Fr h₀ env.locals h' m' ∧ News h₀ env.locals h' ((J, o) :: (D, listOf vs.toArray dn) :: news') ∧ (∀ p ∈ news', p.1 ≠ J) ∧ I i m' news' ∧ i ≤ vs.length ∧ k = vs.length + 1 - i) ?_ (vs.length + 1)
    ⟨_, s.toks, m₀, news, { cls := .type "list_iterator", data := .fields #[Value.ref D, Value.int 0 0] }, 0, rfl, ⟨⟨_, hJ ▸ Heap.get?_push_size _ rfl, rfl, rfl⟩, hls.at fun o e => Heap.get?_push_of_some _ e⟩, F.push _, fun p hp => ?_, fun p hp => Nat.ne_of_lt (hlt p (.tail _ hp)), h0, Nat.zero_le _, rfl⟩
  · rintro k s' ⟨h', tk, m', news', o, i, rfl, hst', F', N', hnw', hI, hi, rfl⟩
    have next : ∀ h₁ : Heap, (∀ b o, b ∉ [J] → h'.get? b = some o → h₁.get? b = some o) → Fr h₀ env.locals h₁ m' ∧ News h₀ env.locals h₁ ((D, listOf vs.toArray dn) :: news') := by
      intro h₁ hk₁
      refine ⟨⟨F'.ns.at' fun o e => hk₁ _ o (fun h => hLJ (List.mem_singleton.mp h)) e, fun b o e => hk₁ b o (fun h => by rw [List.mem_singleton.mp h, hJ0] at e; cases e) (F'.keep b o e), F'.above⟩, fun p hp => ?_⟩
      have z := N' p (.tail _ hp)
      refine ⟨hk₁ _ _ (fun h => ?_) z.1, z.2⟩
      rcases List.mem_cons.mp hp with rfl | hp
      · exact hne (List.mem_singleton.mp h)
      · exact hnw' p hp (List.mem_singleton.mp h)
    by_cases hlt' : i < vs.length
    · refine W.item i _ _ _ hlt' hst' fun v h₁ tk₁ hP hst₁ hk₁ => ?_
      obtain ⟨F₁, N₁⟩ := next h₁ hk₁
      obtain ⟨o₁, ho₁, hc₁, hd₁⟩ := id hst₁.1
      have N₂ : News h₀ env.locals h₁ ((J, o₁) :: (D, listOf vs.toArray dn) :: news') := by
        intro p hp
        rcases List.mem_cons.mp hp with rfl | hp
        · exact ⟨ho₁, hLJ.symm, hJ0⟩
        · exact N₁ p hp
      obtain ⟨⟨t, rfl⟩, hw⟩ := turn i v m' news' h₁ tk₁ J o₁ (by simpa using hP) (hlt _ (.head _)) (fun p hp => hlt p (.tail _ hp)) hI hnw' F₁ N₂
      dsimp only
      refine wpAny_letOwnedTupleGo_listiter hst₁.1 ?_
      refine wpAny_mono hw (fun _ s₂ h₂ => wpAny_mono h₂ (fun f s₃ h₃ => ?_) fun _ _ e => e.elim) fun _ _ e => e.elim
      have fin : Stop (TurnOk h₀ env.locals J [(J, o₁), (D, listOf vs.toArray dn)] (I (i + 1)) { s with heap := h₁, toks := tk₁ } s₃) →
          ∃ m, m < vs.length + 1 - i ∧ ∃ h' tk m' news' o i, s₃ = { s with heap := h', toks := tk } ∧ (h'.IsListIter J D i ∧ h'.IsList D vs.toArray) ∧ Fr h₀ env.locals h' m' ∧ News h₀ env.locals h' ((J, o) :: (D, listOf vs.toArray dn) :: news') ∧ (∀ p ∈ news', p.1 ≠ J) ∧ I i m' news' ∧ i ≤ vs.length ∧ m = vs.length + 1 - i := by
        rintro ⟨⟨h₄, tk₄, m₄, news₄, rfl, F₄, N₄, a₄, I₄⟩⟩
        exact ⟨vs.length + 1 - (i + 1), by exact ar377 hi, h₄, tk₄, m₄, news₄, o₁, i + 1, rfl, ⟨⟨o₁, (N₄ _ (.head _)).1, hc₁, hd₁⟩, News.isList N₄ (.tail _ (.head _))⟩, F₄, N₄, a₄, I₄, hlt', rfl⟩
      cases f with
      | next => exact fin h₃
      | cont => exact fin h₃
      | brk => exact h₃
      | ret v => exact h₃
    · have hin : i = vs.length := by exact ar378 hi hlt'
      subst hin
      refine W.done _ _ _ hst' fun h₁ tk₁ hk₁ => wpAny_execs_nil ?_
      obtain ⟨F₁, N₁⟩ := next h₁ hk₁
      exact done m' news' h₁ tk₁ hI F₁ N₁
  · rcases List.mem_cons.mp hp with rfl | hp
    · exact ⟨hJ ▸ Heap.get?_push_size _ rfl, hLJ.symm, hJ0⟩
    · exact ⟨Heap.get?_push_of_some _ (N p hp).1, (N p hp).2⟩
end
end
section
-- PL
open PySem.Spec
theorem cells_four {cm : Str → Option Value} {n1 n2 n3 n4 : Str} {c1 c2 c3 c4 : Addr} {cells : List (Addr × Obj)} (x : CellsAre cm [(n1, c1), (n2, c2), (n3, c3), (n4, c4)] cells) :
    ∃ o1 o2 o3 o4, cells = [(c1, o1), (c2, o2), (c3, o3), (c4, o4)] ∧ o1.data = .cell (cm n1) ∧ o2.data = .cell (cm n2) ∧ o3.data = .cell (cm n3) ∧ o4.data = .cell (cm n4) := by
  cases x with
  | cons h1 r => cases r with
    | cons h2 r => cases r with
      | cons h3 r => cases r with
        | cons h4 r => cases r with
          | nil => exact ⟨_, _, _, _, rfl, h1, h2, h3, h4⟩

noncomputable def IsItem (h : Heap) (a : Addr) : Prop := ∃ d, h.get? a = some (instObj 88 d)
theorem is_refs {M : Model} {A : Around} {E : Value → Shared → Prop} {s : Shared} {a b : Addr} {Q : Value → Shared → Prop} (ha : IsItem s.heap a) (hb : IsItem s.heap b) (h : Q (.bool (decide (a = b))) s) : wpAny M A (compareOp .Is (.ref a) (.ref b)) Q E s := by
  by_cases e : a = b
  · subst e
    rw [decide_eq_true rfl] at h
    exact wpAny_is_ref_self h
  · rw [decide_eq_false e] at h
    obtain ⟨d, hd⟩ := ha
    obtain ⟨d', hd'⟩ := hb
    exact wpAny_is_ref_other e hd hd' (by intro x; cases x) h

/-- where a node stands among the ways -/
noncomputable def placeOf (ws : List Way) (a : Addr) : List Nat := (List.range ws.length).filter fun i => decide ((ws[i]?).map (·.2.1) = some a)
inductive PlaceJ (D pa : Addr) (m : Str → Option Value) : Prop
  | mk : ∀ pv sv : Option Value, (∀ z, m z = if z = Str.ofString "spot" then sv else if z = Str.ofString "place" then pv else if z = Str.ofString "found" then some (.ref D) else if z = Str.ofString "pairs" then some (.ref pa) else none) → PlaceJ D pa m
inductive NatV : List Value → List Nat → Prop
  | nil : NatV [] []
  | cons {i : Nat} {t : Tok} {vs : List Value} {ns : List Nat} : NatV vs ns → NatV (.int (i : Int) t :: vs) (i :: ns)
/-- the tuples that tell two places -/
inductive PlaceL (ex : List (Addr × Obj)) : List Value → List (List Nat × List Nat) → Prop
  | nil : PlaceL ex [] []
  | cons {t u v : Addr} {n un vn : Nat} {us ws vs : List Value} {a b : List Nat} {ps : List (List Nat × List Nat)} : (t, tupOf #[.ref u, .ref v] n) ∈ ex → (u, listOf us.toArray un) ∈ ex → NatV us a → (v, listOf ws.toArray vn) ∈ ex → NatV ws b → PlaceL ex vs ps → PlaceL ex (.ref t :: vs) ((a, b) :: ps)
theorem PlaceL.mono {ex ex' : List (Addr × Obj)} {vs : List Value} {ps : List (List Nat × List Nat)} (h : PlaceL ex vs ps) (k : ∀ q ∈ ex, q ∈ ex') : PlaceL ex' vs ps := by
  induction h with
  | nil => exact .nil
  | cons h1 h2 h3 h4 h5 _ ih => exact .cons (k _ h1) (k _ h2) h3 (k _ h4) h5 ih
theorem PlaceL.append {ex : List (Addr × Obj)} {vs us : List Value} {a b : List (List Nat × List Nat)} (h : PlaceL ex vs a) (k : PlaceL ex us b) : PlaceL ex (vs ++ us) (a ++ b) := by
  induction h with
  | nil => exact k
  | cons h1 h2 h3 h4 h5 _ ih => exact .cons h1 h2 h3 h4 h5 ih
theorem PlaceL.len {ex : List (Addr × Obj)} {vs : List Value} {ps : List (List Nat × List Nat)} (h : PlaceL ex vs ps) : vs.length = ps.length := by
  induction h with
  | nil => rfl
  | cons _ _ _ _ _ _ ih => simp [ih]
theorem PairsL.at {ex : List (Addr × Obj)} {vs : List Value} {ps : List (Addr × Addr)} (h : PairsL ex vs ps) : ∀ {i : Nat} {v : Value}, vs[i]? = some v → ∃ t a b n, v = .ref t ∧ ps[i]? = some (a, b) ∧ (t, tupOf #[.ref a, .ref b] n) ∈ ex := by
  induction h with
  | nil => intro i v h; simp at h
  | cons h1 _ ih =>
    intro i v hv
    cases i with
    | zero => exact ⟨_, _, _, _, by simpa using hv.symm, rfl, h1⟩
    | succ i => simpa using ih (i := i) (v := v) (by simpa using hv)
theorem WaysL.at {ex : List (Addr × Obj)} {vs : List Value} {ws : List Way} (h : WaysL ex vs ws) : ∀ {i : Nat}, i < ws.length → ∃ t u a b n w, vs[i]? = some (.ref t) ∧ ws[i]? = some (w, a, b) ∧ (t, tupOf #[.ref u, .ref a, .bool b] n) ∈ ex := by
  induction h with
  | nil => intro i h; simp at h
  | cons h1 _ _ _ ih =>
    intro i hi
    cases i with
    | zero => exact ⟨_, _, _, _, _, _, rfl, rfl, h1⟩
    | succ i => simpa using ih (i := i) (by simpa using hi)
theorem tests_one {prog : Program} {w : World} {A : Around} {E : Value → Shared → Prop} {s : Shared} {c : Expr} {cenv : Env} {Qk : Bool → Shared → Prop} (h : wpAny (model prog w) A (isTrue c cenv (eval c cenv)) Qk E s) :
    wpAny (model prog w) A (forIn [c] true fun c r => if r = true then do let ok ← isTrue c cenv (eval c cenv); pure (ForInStep.yield ok) else pure (ForInStep.yield r)) Qk E s := by
  rw [List.forIn_cons]
  refine wpAny_bind ?_
  rw [if_pos rfl]
  refine wpAny_bind (wpAny_mono h (fun ok s₃ h₃ => wpAny_pure ?_) fun _ _ e => e)
  dsimp only
  rw [List.forIn_nil]
  exact wpAny_pure h₃
theorem natV_carried : ∀ {ns : List Nat} {vs : List Value}, CarriedAll vs (ns.map fun i : Nat => PyData.int (i : Int)) → NatV vs ns
  | [], vs, h => by cases h; exact .nil
  | n :: ns, vs, h => by
    cases h with
    | cons h1 h2 =>
      cases h1
      exact .cons (natV_carried h2)
theorem natV_of {ws : List Way} {a : Addr} {ys : List Value} {n : Nat} (hn : ws.length = n) (h : CarriedAll ys (((rangeInts 0 1 n).filter fun i => decide ((ws[i.toNat]?).map (·.2.1) = some a)).map PyData.int)) : NatV ys (placeOf ws a) := by
  subst hn
  refine natV_carried ?_
  have e : ((rangeInts 0 1 ws.length).filter fun i => decide ((ws[i.toNat]?).map (·.2.1) = some a)).map PyData.int = (placeOf ws a).map fun i : Nat => PyData.int (i : Int) := by
    unfold rangeInts placeOf
    rw [List.filter_map, List.map_map]
    have e1 : ∀ i : Nat, ((0 : Int) + (i : Int) * 1).toNat = i := fun i => by exact ar408
    have e2 : ∀ i : Nat, ((0 : Int) + (i : Int) * 1) = (i : Int) := fun i => by exact ar409
    congr 1
    · funext i; exact congrArg PyData.int (e2 i)
    · refine List.filter_congr fun i _ => ?_
      show decide ((ws[((0 : Int) + (i : Int) * 1).toNat]?).map (·.2.1) = some a) = _
      rw [e1]
  rw [← e]; exact h
end
section
-- S5
open PySem.Spec PySem.SeqAt
open AutoSeq1 (wpAny_loadPart')
open MeetsSeq MeetsSeq2 MeetsSeq3
theorem list_lt_at (l b : Addr) (items items2 : Array Value) (x y : Int) (t u : Tok) (n n2 : Nat) (hi1 : items[Int.toNat 0]? = some (.int x t)) (hi2 : items2[Int.toNat 0]? = some (.int y u)) (hne : x ≠ y) :
    Meets (Builtin.«list.__lt__» ⟨[.ref l, .ref b], []⟩)
      (fun A R s => s.heap.get? l = some { cls := .type "list", data := .seq items n } ∧ s.heap.get? b = some { cls := .type "list", data := .seq items2 n2 } ∧
        R (.ok (.ret (.bool (decide (x < y))))) s) := by
  intro prog w A R s h
  obtain ⟨hp, g, d, tk, os⟩ := s; obtain ⟨hl, hb, h⟩ := h
  have f3 := AutoSeq1.sub_list_list
  wp_walk using wpAny_loadPart' hl, wpAny_loadPart' hb
  refine ⟨plainId_quiet plain_eq_loop _, codeAny_builtin entry_eq_loop ?_⟩
  rw [Around.under_plainId plain_eq_loop _]
  wp_walk using wpAny_loadPart' hl, wpAny_loadPart' hb
  rw [hi1, hi2]
  have he : (x == y) = false := by simpa using hne
  refine wpAny_bind (wpAny_eqBool_int ?_)
  rw [he]
  wp_walk using wpAny_loadPart' hl, wpAny_loadPart' hb
  rw [hi1, hi2]
  refine wpAny_bind (show wpAny (model prog w) A.in1 (richCompare .Lt (.int x t) (.int y u)) _ _ _ from PyProof.Rows.lt_int ?_)
  wp_walk
  exact h

section
variable {prog : Program} {w : World} {A : Around} {E : Value → Shared → Prop} {s : Shared} {l b : Addr} {items items2 : Array Value} {x y : Int} {t u : Tok} {n n2 : Nat}
theorem richLt_lists {Q : Value → Shared → Prop} (hl : s.heap.get? l = some (listOf items n)) (hb : s.heap.get? b = some (listOf items2 n2)) (hi1 : items[Int.toNat 0]? = some (.int x t)) (hi2 : items2[Int.toNat 0]? = some (.int y u)) (hne : x ≠ y) (hu : A.units < cLine)
    (h : Q (.bool (decide (x < y))) s) : wpAny (model prog w) A (compareOp .Lt (.ref l) (.ref b)) Q E s := by
  refine cmp_ofLt ?_
  exact richCompare_meets_room (op := .Lt) ⟨_, hl, rfl⟩ ⟨_, hb, rfl⟩ F.slot_list_lt F.entry_list_lt (F.args_list_lt_2 _ _) (list_lt_at l b items items2 x y t u n n2 hi1 hi2 hne)
    ⟨hl, hb, show Value.bool (decide (x < y)) ≠ Value.notImplemented ∧ Q (.bool (decide (x < y))) s from ⟨(fun x => nomatch x), h⟩⟩ hu
theorem oneLt_lists {Q : Bool → Shared → Prop} (hl : s.heap.get? l = some (listOf items n)) (hb : s.heap.get? b = some (listOf items2 n2)) (hi1 : items[Int.toNat 0]? = some (.int x t)) (hi2 : items2[Int.toNat 0]? = some (.int y u)) (hne : x ≠ y) (hu : A.units < cLine)
    (h : Q (decide (x < y)) s) : wpAny (model prog w) A (oneLt' true (.ref l) (.ref b)) Q E s := by
  rw [oneLt'_eq]
  simp only [if_true]
  refine wpAny_bind (wpAny_cRoomFor_or (.inr hu) ?_)
  refine wpAny_bind (wpAny_callSpecialIfBound?_slot ⟨_, hl, rfl⟩ F.slot_list_lt ?_)
  refine call_meets F.slot_list_lt ⟨_, hl, rfl⟩ F.entry_list_lt (F.args_list_lt_2 _ _) (list_lt_at l b items items2 x y t u n n2 hi1 hi2 hne) ⟨hl, hb, ?_⟩
  show wpAny (model prog w) A (truthOfDropped (.bool (decide (x < y)))) Q E s
  exact wpAny_truthy_bool h

theorem eqB_lists {Q : Bool → Shared → Prop} {i j : Int} (hl : s.heap.get? l = some (listOf #[.int i t] n)) (hb : s.heap.get? b = some (listOf #[.int j u] n2)) (hu : A.units + 64 < cLine) (h : Q (decide (i = j)) s) : wpAny (model prog w) A (eqBool (.ref l) (.ref b)) Q E s := by
  refine eqBoolOverData prog w A E s (.ref l) (.ref b) (.list [.int i]) (.list [.int j]) _ _ Q (reads_list_at hl rfl rfl (readsAll_cons0 (.int _ _) .nil)) (reads_list_at hb rfl rfl (readsAll_cons0 (.int _ _) .nil)) rfl rfl ?_ ?_
  · have : min (PyData.depth (.list [.int i])) (PyData.depth (.list [.int j])) ≤ 64 := by simp [PyData.depth, PyData.depthAll]
    exact ar414 this hu
  · have e : PyData.eqv (.list [.int i]) (.list [.int j]) = decide (i = j) := by simp [PyData.eqv, PyData.eqvAll]; rfl
    rw [e]; exact h
theorem tupLt {Q : Bool → Shared → Prop} {a1 a2 u1 u2 v1 v2 : Addr} {k1 k2 n1 n2 m1 m2 : Nat} {i1 i2 j1 j2 : Int} {t1 t2 t3 t4 : Tok} (h1 : s.heap.get? a1 = some (tupOf #[.ref u1, .ref v1] k1)) (h2 : s.heap.get? a2 = some (tupOf #[.ref u2, .ref v2] k2))
    (g1 : s.heap.get? u1 = some (listOf #[.int i1 t1] n1)) (g2 : s.heap.get? u2 = some (listOf #[.int i2 t2] n2)) (g3 : s.heap.get? v1 = some (listOf #[.int j1 t3] m1)) (g4 : s.heap.get? v2 = some (listOf #[.int j2 t4] m2)) (hu : A.units + 64 < cLine)
    (h : Q (decide (i1 < i2 ∨ i1 = i2 ∧ j1 < j2)) s) : wpAny (model prog w) A (keyLt' (tuples' true) (.ref a1) (.ref a2)) Q E s := by
  refine kat_lt h1 rfl h2 rfl (kat_cons (eqB_lists g1 g2 hu (kat_go (fun e => ?_) (fun e => ?_))))
  · have e : i1 = i2 := by simpa using e
    subst e
    refine kat_yes (kat_cons (eqB_lists g3 g4 hu (kat_go (fun e => ?_) (fun e => ?_))))
    · have e : j1 = j2 := by simpa using e
      subst e
      refine kat_yes (kat_nil ?_)
      simpa using h
    · have e : j1 ≠ j2 := by simpa using e
      refine kat_no (kat_one _ _ (richLt_lists g3 g4 rfl rfl e (by exact ar415 hu) ?_))
      show Q (decide (j1 < j2)) s
      simpa using h
  · have e : i1 ≠ i2 := by simpa using e
    refine kat_no (oneLt_lists g1 g2 rfl rfl e (by exact ar415 hu) ?_)
    simpa [e] using h
end
end
section
-- S6
open PySem.Spec PySem.SeqAt
noncomputable def sg (q : Nat × Nat) : List Nat × List Nat := ([q.1], [q.2])
noncomputable def lexLt (a b : Nat × Nat) : Prop := a.1 < b.1 ∨ a.1 = b.1 ∧ a.2 < b.2
noncomputable def keyN (q : Nat × Nat) : Nat := q.1 * 1000 + q.2
noncomputable def Small (q : Nat × Nat) : Prop := q.1 < 1000 ∧ q.2 < 1000
theorem lex_key {a b : Nat × Nat} (ha : Small a) (hb : Small b) : keyN a < keyN b ↔ lexLt a b := by
  unfold keyN lexLt Small at *; omega
theorem key_inj {a b : Nat × Nat} (ha : Small a) (hb : Small b) (h : keyN a = keyN b) : a = b := by
  unfold keyN Small at *
  have h1 : a.1 = b.1 := by exact ar430 h ha hb
  have h2 : a.2 = b.2 := by exact ar431 h h1
  exact Prod.ext h1 h2
/-- this value tells these two numbers -/
inductive KeyIs (h : Heap) (v : Value) (q : Nat × Nat) : Prop
  | mk : ∀ t u w k n m t1 t2, (v = .ref t) → (h.get? t = some (tupOf #[.ref u, .ref w] k)) → (h.get? u = some (listOf #[.int (q.1 : Int) t1] n)) → (h.get? w = some (listOf #[.int (q.2 : Int) t2] m)) → KeyIs h v q
noncomputable def seqItems (h : Heap) (a : Addr) : List Value := match h.get? a with
  | some o => match o.data with
    | .seq xs _ => xs.toList
    | _ => []
  | none => []
noncomputable def intOf : List Value → Nat
  | .int i _ :: _ => i.toNat
  | _ => 0
noncomputable def firstI (h : Heap) (u : Addr) : Nat := intOf (seqItems h u)
noncomputable def keyT (h : Heap) : List Value → Nat
  | .ref u :: .ref w :: _ => firstI h u * 1000 + firstI h w
  | _ => 0
noncomputable def keyV (h : Heap) : Value → Nat
  | .ref t => keyT h (seqItems h t)
  | _ => 0
theorem keyV_is {h : Heap} {v : Value} {q : Nat × Nat} (k : KeyIs h v q) : keyV h v = keyN q := by
  obtain ⟨t, u, w, k, n, m, t1, t2, rfl, h1, h2, h3⟩ := k
  have e1 : firstI h u = q.1 := by unfold firstI seqItems; rw [h2]; exact Int.toNat_natCast _
  have e2 : firstI h w = q.2 := by unfold firstI seqItems; rw [h3]; exact Int.toNat_natCast _
  have e3 : seqItems h t = [.ref u, .ref w] := by unfold seqItems; rw [h1]
  show keyT h (seqItems h t) = _
  rw [e3]
  show firstI h u * 1000 + firstI h w = _
  rw [e1, e2]; rfl
theorem natV_one {us : List Value} {a : Nat} (h : NatV us [a]) : ∃ t, us = [.int (a : Int) t] := by
  cases h with
  | cons r => cases r; exact ⟨_, rfl⟩
theorem keyIs_at {ex : List (Addr × Obj)} {vs : List Value} {ps : List (Nat × Nat)} {h : Heap} (H : PlaceL ex vs (ps.map sg)) (up : ∀ q ∈ ex, h.get? q.1 = some q.2) : ∀ {i : Nat} {v : Value}, vs[i]? = some v → ∃ q, ps[i]? = some q ∧ KeyIs h v q := by
  generalize hm : ps.map sg = l at H
  induction H generalizing ps with
  | nil => intro i v hv; simp at hv
  | cons h1 h2 h3 h4 h5 _ ih =>
    intro i v hv
    cases ps with
    | nil => simp at hm
    | cons p ps =>
      obtain ⟨e1, e2⟩ := List.cons.inj (by simpa using hm)
      cases i with
      | zero =>
        rw [List.getElem?_cons_zero] at hv
        cases hv
        unfold sg at e1
        obtain ⟨ea, eb⟩ := Prod.mk.inj e1
        subst ea eb
        obtain ⟨t1, rfl⟩ := natV_one h3
        obtain ⟨t2, rfl⟩ := natV_one h5
        refine ⟨p, rfl, ?_⟩
        exact ⟨_, _, _, _, _, _, t1, t2, rfl, up _ h1, up _ h2, up _ h4⟩
      | succ i => simpa using ih e2 (i := i) (v := v) (by simpa using hv)
theorem PlaceL.perm {ex : List (Addr × Obj)} {vs vs' : List Value} {ps : List (List Nat × List Nat)} (h : PlaceL ex vs ps) (k : vs.Perm vs') : ∃ ps', ps.Perm ps' ∧ PlaceL ex vs' ps' := by
  induction k generalizing ps with
  | nil => exact ⟨ps, .refl _, h⟩
  | cons v _ ih =>
    cases h with
    | cons h1 h2 h3 h4 h5 r =>
      obtain ⟨ps', a, b⟩ := ih r
      exact ⟨_, a.cons _, .cons h1 h2 h3 h4 h5 b⟩
  | swap x y l =>
    cases h with
    | cons h1 h2 h3 h4 h5 r =>
      cases r with
      | cons g1 g2 g3 g4 g5 r => exact ⟨_, .swap _ _ _, .cons g1 g2 g3 g4 g5 (.cons h1 h2 h3 h4 h5 r)⟩
  | trans _ _ ih1 ih2 =>
    obtain ⟨p1, a1, b1⟩ := ih1 h
    obtain ⟨p2, a2, b2⟩ := ih2 b1
    exact ⟨p2, a1.trans a2, b2⟩
theorem sg_perm {ps : List (Nat × Nat)} {l : List (List Nat × List Nat)} (h : (ps.map sg).Perm l) : ∃ qs, ps.Perm qs ∧ l = qs.map sg := by
  let un : List Nat × List Nat → Nat × Nat := fun x => (x.1.headD 0, x.2.headD 0)
  refine ⟨l.map un, ?_, ?_⟩
  · have := h.map un
    rw [List.map_map] at this
    have e : un ∘ sg = id := by funext q; rfl
    rw [e, List.map_id] at this
    exact this
  · rw [List.map_map]
    refine (List.map_id l).symm.trans (List.map_congr_left fun x hx => ?_)
    obtain ⟨q, _, rfl⟩ := List.mem_map.mp (h.mem_iff.mpr hx)
    rfl

/-- what the sort of the places leaves -/
inductive SortedP (ex : List (Addr × Obj)) (ps : List (Nat × Nat)) (out : List Value) : Prop
  | mk : ∀ qs, (ps.Perm qs) → (qs.Pairwise lexLt) → (PlaceL ex out (qs.map sg)) → SortedP ex ps out
theorem katTups_of {ex : List (Addr × Obj)} {h : Heap} {vs : List Value} {ps : List (List Nat × List Nat)} (H : PlaceL ex vs ps) (up : ∀ q ∈ ex, h.get? q.1 = some q.2) : ∃ fs, KatTups h vs fs ∧ fs.length = vs.length ∧ ∀ v ∈ fs, ∃ u us n, v = .ref u ∧ h.get? u = some (listOf us n) := by
  induction H with
  | nil => exact ⟨[], KatTups.nil, rfl, fun _ h => nomatch h⟩
  | cons h1 h2 h3 h4 h5 _ ih =>
    obtain ⟨fs, a, b, c⟩ := ih
    refine ⟨_ :: fs, KatTups.cons (up _ h1) rfl rfl rfl a, by simp [b], fun v hv => ?_⟩
    rcases List.mem_cons.mp hv with rfl | hv
    · exact ⟨_, _, _, rfl, up _ h2⟩
    · exact c v hv
section
variable {prog : Program} {w : World} {A : Around} {s : Shared}
theorem sort_places {ex : List (Addr × Obj)} {vs : List Value} {ps : List (Nat × Nat)} (H : PlaceL ex vs (ps.map sg)) (up : ∀ q ∈ ex, s.heap.get? q.1 = some q.2) (hnd : ps.Nodup) (hsm : ∀ q ∈ ps, Small q) (hz : ps.length ≤ 64) (h2 : 2 ≤ ps.length) (hu : A.units + 64 < cLine) :
    SortRun prog w A s vs (SortedP ex ps) := by
  have hlen : vs.length = ps.length := by rw [H.len, List.length_map]
  have at_ : ∀ {i : Nat} {v : Value}, vs[i]? = some v → ∃ q, ps[i]? = some q ∧ KeyIs s.heap v q := fun h => keyIs_at H up h
  have mem_ : ∀ v ∈ vs, ∃ q ∈ ps, KeyIs s.heap v q := fun v hv => by
    obtain ⟨i, hi, e⟩ := List.getElem_of_mem hv
    obtain ⟨q, hq, k⟩ := at_ (i := i) (v := v) (by rw [List.getElem?_eq_getElem hi, e])
    exact ⟨q, List.mem_of_getElem? hq, k⟩
  let kf : Keyed → Nat := fun x => keyV s.heap x.1
  have hdiag : ∀ x ∈ (pairsOf vs).toList, x.1 = x.2 ∧ x.1 ∈ vs := fun x hx => by
    rw [pairsOf_toList] at hx; exact mem_zip_self hx
  have hkeys : (pairsOf vs).toList.map kf = ps.map keyN := by
    rw [pairsOf_toList]
    apply List.ext_getElem?
    intro i
    rw [List.getElem?_map, List.getElem?_map]
    cases hv : vs[i]? with
    | none =>
      have h1 : (vs.zip vs)[i]? = none := by
        rw [List.getElem?_eq_none_iff] at hv ⊢; simpa using hv
      have h3 : ps[i]? = none := by
        rw [List.getElem?_eq_none_iff] at hv ⊢; exact ar432 hlen hv
      rw [h1, h3]; rfl
    | some v =>
      obtain ⟨q, hq, k⟩ := at_ hv
      have h1 : (vs.zip vs)[i]? = some (v, v) := by
        rw [List.getElem?_zip_eq_some]; exact ⟨hv, hv⟩
      rw [h1, hq]
      show some (keyV s.heap v) = some (keyN q)
      rw [keyV_is k]
  have hcmp : CmpOk prog w A s (tuples' true) kf (pairsOf vs) := by
    intro x y hx hy Q E hQ
    obtain ⟨q, hq, k⟩ := mem_ x.1 (hdiag x hx).2
    obtain ⟨q', hq', k'⟩ := mem_ y.1 (hdiag y hy).2
    have e1 : kf x = keyN q := keyV_is k
    have e2 : kf y = keyN q' := keyV_is k'
    rw [e1, e2] at hQ
    obtain ⟨a1, u1, w1, n1, n2, n3, t1, t2, z1, z2, z3, z4⟩ := k
    obtain ⟨b1, u2, w2, m1, m2, m3, t3, t4, y1, y2, y3, y4⟩ := k'
    rw [z1, y1]
    refine tupLt z2 y2 z3 y3 z4 y4 hu ?_
    have e : decide ((q.1 : Int) < (q'.1 : Int) ∨ (q.1 : Int) = (q'.1 : Int) ∧ (q.2 : Int) < (q'.2 : Int)) = decide (keyN q < keyN q') := by
      apply decide_eq_decide.mpr
      rw [lex_key (hsm q hq) (hsm q' hq')]
      unfold lexLt; omega
    rw [e]; exact hQ
  have hndk : ((pairsOf vs).toList.map kf).Nodup := by
    rw [hkeys]
    exact List.pairwise_map.mpr (List.Pairwise.imp_of_mem (fun ha hb hne e => hne (key_inj (hsm _ ha) (hsm _ hb) e)) hnd)
  -- from a sorted row of keyed values to what is said of it
  have hfin : ∀ arr' : Array Keyed, arr'.Perm (pairsOf vs) → SegS kf arr' 0 (pairsOf vs).size → SortedP ex ps (arr'.toList.map (·.2)) := by
    intro arr' hp hs
    have hpl : (arr'.toList.map (·.2)).Perm vs := by
      have h1 := (Array.perm_iff_toList_perm.mp hp).map (·.2)
      have h3 : (pairsOf vs).toList.map (·.2) = vs := by rw [pairsOf_toList]; exact List.map_snd_zip (Nat.le_refl _)
      rw [h3] at h1; exact h1
    obtain ⟨l, hl, hL⟩ := H.perm hpl.symm
    obtain ⟨qs, hq, rfl⟩ := sg_perm hl
    refine ⟨qs, hq, ?_, hL⟩
    have hsz : arr'.size = ps.length := by rw [hp.size_eq, pairsOf_size, hlen]
    have hka : ∀ (i : Nat) (q : Nat × Nat), qs[i]? = some q → KA kf arr' i = keyN q := by
      intro i q hi
      have hi' : i < arr'.size := by
        have := (List.getElem?_eq_some_iff.mp hi).1
        rw [hsz]; have := hq.length_eq; omega
      have hv : (arr'.toList.map (·.2))[i]? = some (arr'[i].2) := by
        rw [List.getElem?_map, Array.getElem?_toList]; simp [hi']
      obtain ⟨q', h1, h3⟩ := keyIs_at hL up hv
      rw [hi] at h1; cases h1
      have hm : arr'[i] ∈ (pairsOf vs).toList := (Array.perm_iff_toList_perm.mp hp).mem_iff.mp (by simp)
      have e : KA kf arr' i = kf arr'[i] := by unfold KA; simp [hi']
      rw [e]
      show keyV s.heap (arr'[i]).1 = _
      rw [(hdiag _ hm).1]
      exact keyV_is h3
    rw [List.pairwise_iff_getElem]
    intro i j hi hj hij
    have hsi : Small qs[i] := hsm _ (hq.mem_iff.mpr (List.getElem_mem hi))
    have hsj : Small qs[j] := hsm _ (hq.mem_iff.mpr (List.getElem_mem hj))
    rw [← lex_key hsi hsj, ← hka i _ (List.getElem?_eq_getElem hi), ← hka j _ (List.getElem?_eq_getElem hj)]
    refine hs i j (Nat.zero_le _) hij ?_
    rw [pairsOf_size, hlen, hq.length_eq]; exact hj
  refine ⟨tuples' true, fun Q E hQ => ?_, fun E => ?_⟩
  · obtain ⟨fs, hfs, hfl, hfo⟩ := katTups_of H up
    refine kat_kind (T := Value.type "list") hfs (by exact ar433 h2 hfl hlen) (fun v hv => ?_) rfl hQ
    obtain ⟨u, us, n, rfl, ho⟩ := hfo v hv
    exact show Looks _ s.heap (typeOf (.ref u)) (listOf us n).cls from (Looks.ld ho).andThen .now
  · have hsz : (pairsOf vs).size = ps.length := by rw [pairsOf_size, hlen]
    have hQ : ∀ arr' pend', arr'.Perm (pairsOf vs) → SegS kf arr' 0 (pairsOf vs).size → (fun (_ : Unit) (st' : SortSt) => failedOf st' = none ∧ (arrOf st').size = vs.length ∧ SortedP ex ps ((arrOf st').toList.map (·.2))) () (MK (tuples' true) pend' arr') :=
      fun arr' pend' hp hs => ⟨rfl, by show arr'.size = _; rw [hp.size_eq, pairsOf_size], hfin arr' hp hs⟩
    by_cases h64' : ps.length = 64
    · have hQg : ∀ arr' pend' g, arr'.Perm (pairsOf vs) → SegS kf arr' 0 (pairsOf vs).size → (fun (_ : Unit) (st' : SortSt) => failedOf st' = none ∧ (arrOf st').size = vs.length ∧ SortedP ex ps ((arrOf st').toList.map (·.2))) () (setG (MK (tuples' true) pend' arr') g) :=
        fun arr' pend' g hp hs => ⟨rfl, by show arr'.size = _; rw [hp.size_eq, pairsOf_size], hfin arr' hp hs⟩
      exact runs_g64 hcmp hndk (Array.Perm.refl _) (by rw [hsz, h64']) hQg
    · exact runs_small hcmp hndk (Array.Perm.refl _) (by rw [hsz]; exact h2) (by rw [hsz]; exact ar434 hz h64') hQ
end
end
section
-- H3
open PySem.Spec
theorem fillH3 : ∀ P : Params, (hd.heap_39 P) = hd.heap_39 P ∧ PySem.Challenge.rw_og0075_01 = PySem.Challenge.rw_og0075_01 := by
  k_fill
  intro P; exact ⟨rfl, rfl⟩
local macro_rules | `(tactic| walk_at "execs cons") => `(tactic| (k_here; dsimp only; k_gentoks))
local macro_rules | `(tactic| walk_at "execs nil") => `(tactic| (k_here; dsimp only; k_gentoks))
local macro_rules | `(tactic| walk_at $s:str) => `(tactic| k_extra $s)
inductive PlacesI (D L pa : Addr) (c2 c1 : Obj) (H : List (Addr × Obj)) (sw ow : List Way) (ps : List (Addr × Addr)) (i : Nat) (m : Str → Option Value) (news : List (Addr × Obj)) : Prop
  | mk : ∀ vs dn o4 o3 v4 v3 ex, (news = (D, listOf vs.toArray dn) :: (L + 1 + 1 + 1 + 1, o4) :: (L + 1 + 1 + 1, o3) :: (L + 1 + 1, c2) :: (L + 1, c1) :: (ex ++ H)) → (o4.data = .cell v4) → (o3.data = .cell v3) → (PlaceL ex vs ((ps.take i).map fun q => (placeOf sw q.1, placeOf ow q.2))) → ((∀ q ∈ ex, q.1 ≠ D ∧ @Ne Nat q.1 (L + 1 + 1 + 1 + 1) ∧ @Ne Nat q.1 (L + 1 + 1 + 1))) → (PlaceJ D pa m) → PlacesI D L pa c2 c1 H sw ow ps i m news
theorem places_ {prog : Program} {w : World} {A : Around} {s : Shared} {p : Program} {loose : List Str} {mean : ExcName → Option Value} {mg mb : Str → Option Value} {hB : Heap} {pa sa oa : Addr} {pvs svs ovs : List Value} {pn sn on : Nat} {ps : List (Addr × Addr)} {sw ow : List Way} {H : List (Addr × Obj)} (X : (hd.heap_39 w.params).In hB) (T : Top p loose mean mg mb hB) (st : hB.StaysIn s.heap)
    (hH : ∀ q ∈ H, s.heap.get? q.1 = some q.2 ∧ hB.get? q.1 = none) (hp : (pa, listOf pvs.toArray pn) ∈ H) (hs : (sa, listOf svs.toArray sn) ∈ H) (ho : (oa, listOf ovs.toArray on) ∈ H) (hps : PairsL H pvs ps) (hsw : WaysL H svs sw) (how : WaysL H ovs ow) (ips : ∀ q ∈ ps, IsItem hB q.1 ∧ IsItem hB q.2) (isw : ∀ q ∈ sw, IsItem hB q.2.1) (iow : ∀ q ∈ ow, IsItem hB q.2.1) (hsz : svs.length < 1000 ∧ ovs.length < 1000) (hpz : ps.length < 1000) {qs : List (Nat × Nat)} (hqs : (ps.map fun q => (placeOf sw q.1, placeOf ow q.2)) = qs.map sg) (hnd : qs.Nodup) (hsm : ∀ q ∈ qs, Small q) (hq64 : qs.length ≤ 64) (hu : A.units < 1000)
    (hdp : A.depth + 6 < recursionLimit) (hh : A.handled = none) :
    Does prog w A (H.map (·.1)) (call (.ref 168) [.ref pa, .ref sa, .ref oa]) s (fun r tl => ∃ D dn out ex, r = .ref D ∧ tl = (D, listOf out.toArray dn) :: (ex ++ H) ∧ SortedP ex qs out) := by
  intro Q E kk
  have hroom : A.depth < recursionLimit := by exact ar296 hdp
  refine' enterFC (binds := [(Str.ofString "pairs", .ref pa), (Str.ofString "some", .ref sa), (Str.ofString "others", .ref oa)]) X T st hH hroom ?ho ?hcd ?hb ?hki ?hnd ?_ ?c2 ?c3 ?c4
  case ho => k_is
  case hcd => k_is
  case hb => exact BindsTo.of_eq rfl
  case hki => exact rfl
  case hnd => decide +kernel
  case c2 => exact rfl
  case c3 => exact rfl
  case c4 => exact rfl
  intro g L' h₁ tk1 cells F1 N1 Y1 lH X1 T1 st1 up dn
  obtain ⟨c4, c3, c2, c1, rfl, d4, d3, d2, d1⟩ := cells_four (n1 := Str.ofString "other") (n2 := Str.ofString "one") (n3 := Str.ofString "others") (n4 := Str.ofString "some") (c1 := L' + 1 + 1 + 1 + 1) (c2 := L' + 1 + 1 + 1) (c3 := L' + 1 + 1) (c4 := L' + 1) Y1
  clear Y1
  have d4 : c4.data = .cell none := d4
  have d3 : c3.data = .cell none := d3
  have d2 : c2.data = .cell (some (.ref oa)) := d2
  have d1 : c1.data = .cell (some (.ref sa)) := d1
  have F1 : Fr g L' h₁ (fun y => if y = Str.ofString "pairs" then some (.ref pa) else none) := F1
  have N1 : News g L' h₁ ((L' + 1 + 1 + 1 + 1, c4) :: (L' + 1 + 1 + 1, c3) :: (L' + 1 + 1, c2) :: (L' + 1, c1) :: H) := N1
  k_with "exec For Tuple Name cons nil" => (refine stop_here ?_)
  k_with "newList" => (k_here; k_dflt (refine' newList_K ?k1 ?k2 ?_; (case k1 => k_asm); (case k2 => k_asm); k_whole); intro D hD FD ND lD; (try k_sweep))
  try k_fold
  k_steps
  refine ⟨?_⟩
  rename Fr g L' _ _ => F2
  rename News g L' _ _ => N2
  k_with_none
  refine forT_listN (D := pa) (vs := pvs) (dn := pn) (news := (D, listOf #[] 0) :: (L' + 1 + 1 + 1 + 1, c4) :: (L' + 1 + 1 + 1, c3) :: (L' + 1 + 1, c2) :: (L' + 1, c1) :: H) (PlacesI D L' pa c2 c1 H sw ow ps) hh ?_ F2 (News.sub N2 ?_) ⟨[], 0, c4, c3, none, none, [], rfl, d4, d3, .nil, (fun _ h => nomatch h), none, none, fun z => ?_⟩ ?_ ?_
  · intro Q' E' hq
    k_steps
    exact hq
  · intro q hq
    rcases List.mem_cons.mp hq with h | h
    · rw [h]; exact .tail _ (.tail _ (.tail _ (.tail _ (.tail _ hp))))
    · exact h
  · by_cases z1 : z = Str.ofString "spot"
    · subst z1; with_unfolding_all rfl
    · by_cases z2 : z = Str.ofString "place"
      · subst z2; with_unfolding_all rfl
      · simp only [if_neg z1, if_neg z2]
  · rintro i v m₁ news₁ h5 tk5 J oJ hv hDJ hJ ⟨vs, dn, o4, o3, v4, v3, ex, rfl, e4, e3, hpl, hex, pv, sv, hm⟩ hoff F5 N5
    obtain ⟨t, a, b, tn, rfl, hab, ht⟩ := hps.at hv
    refine ⟨⟨t, rfl⟩, ?_⟩
    have em := funext hm
    subst em
    change Fr g L' _ _ at F5
    change News g L' _ ((J, oJ) :: (pa, listOf pvs.toArray pn) :: (D, listOf vs.toArray dn) :: (L' + 1 + 1 + 1 + 1, o4) :: (L' + 1 + 1 + 1, o3) :: (L' + 1 + 1, c2) :: (L' + 1, c1) :: (ex ++ H)) at N5
    have hT : PyProof.Rows.IsTup h5 t #[.ref a, .ref b] := ⟨_, (N5 (t, tupOf #[.ref a, .ref b] tn) (.tail _ (.tail _ (.tail _ (.tail _ (.tail _ (.tail _ (.tail _ (List.mem_append_right _ ht)))))))) ).1, rfl, _, rfl⟩
    have lpa : @LT.lt Nat _ pa L' := lH _ hp
    have lDD : @LT.lt Nat _ (L' + 1 + 1 + 1 + 1) D := lD _ (.head _)
    have lDJ : @LT.lt Nat _ D J := hJ _ (.head _)
    have hx4 : ∀ q ∈ ex ++ H, q.1 ≠ L' + 1 + 1 + 1 + 1 := fun q hq => by
      rcases List.mem_append.mp hq with h | h
      · exact (hex q h).2.1
      · exact fun e => by have := lH q h; have e' : @Eq Nat q.1 (L' + 1 + 1 + 1 + 1) := e; exact ar297 this e'
    have hx3 : ∀ q ∈ ex ++ H, q.1 ≠ L' + 1 + 1 + 1 := fun q hq => by
      rcases List.mem_append.mp hq with h | h
      · exact (hex q h).2.2
      · exact fun e => by have := lH q h; have e' : @Eq Nat q.1 (L' + 1 + 1 + 1) := e; exact ar298 this e'
    clear F2 N2
    k_dflt (refine unpackN_ F5 N5 hT hh rfl rfl ?_)
    intro h6 F6 N6
    clear F5 N5
    k_with "exec Assign Name ListComp cons" => (refine stop_here ?_)
    k_with "exec Assign Name ListComp" => (refine stop_here ?_)
    try k_fold
    k_steps
    rename Obj.data _ = Data.cell (some (Value.ref b)) => g4
    rename Obj.data _ = Data.cell (some (Value.ref a)) => g3
    rename Fr g L' _ _ => F7
    rename News g L' _ _ => N7
    obtain ⟨o3, o4, g3, g4, N7⟩ : ∃ o3 o4 : Obj, o3.data = Data.cell (some (Value.ref a)) ∧ o4.data = Data.cell (some (Value.ref b)) ∧ News g L' _ ((J, oJ) :: (pa, listOf pvs.toArray pn) :: (D, listOf vs.toArray dn) :: (L' + 1 + 1 + 1 + 1, o4) :: (L' + 1 + 1 + 1, o3) :: (L' + 1 + 1, c2) :: (L' + 1, c1) :: (ex ++ H)) := ⟨_, _, g3, g4, N7⟩
    have hsz1 : svs.length < 1000 := hsz.1
    have hsz2 : ovs.length < 1000 := hsz.2
    have hmem := List.mem_of_getElem? hab
    have mH : ∀ q ∈ H, q ∈ (J, oJ) :: (pa, listOf pvs.toArray pn) :: (D, listOf vs.toArray dn) :: (L' + 1 + 1 + 1 + 1, o4) :: (L' + 1 + 1 + 1, o3) :: (L' + 1 + 1, c2) :: (L' + 1, c1) :: (ex ++ H) := fun q hq => .tail _ (.tail _ (.tail _ (.tail _ (.tail _ (.tail _ (.tail _ (List.mem_append_right _ hq)))))))
    k_dflt (refine' Assign_ListComp_DCr (h₀ := g) (L := L') (m := fun x => if x = Str.ofString "spot" then sv else if x = Str.ofString "place" then pv else if x = Str.ofString "found" then some (Value.ref D) else if x = Str.ofString "pairs" then some (Value.ref pa) else none) (pz := fun i => decide ((sw[i.toNat]?).map (·.2.1) = some a)) (d := PyData.int) ?hsw rfl hh ?hclos ?hcell ?hkind ?hnames ?hx ?hy ?hp ?_ ?hs)
    case hsw => rfl
    case hclos => rfl
    case hcell => decide
    case hkind => rfl
    case hnames => decide
    case hx => rfl
    case hy => rfl
    case hp => rfl
    case hs => intro _; rfl
    k_with_none
    k_with "call builtin:len" => (refine stop_here ?_)
    k_with "call type:range" => (refine stop_here ?_)
    try k_fold
    k_steps
    refine ⟨?_⟩
    k_dflt (refine call_len_list (News.isList N7 (mH _ hs)) (by rw [List.size_toArray]; omega) ?_)
    k_steps
    refine ⟨?_⟩
    rename Fr g L' _ _ => F8
    rename News g L' _ _ => N8
    k_dflt (refine range_K F8 N8 ?_)
    intro r8 h8 tk8 t18 t28 F8' N8' lr8 R8
    clear F8 N8
    first | (show qk _ _) | skip
    k_unfold
    dsimp only
    rw [List.size_toArray] at R8
    refine ⟨_, r8, 0, _, 1, _, _, _, svs.length, rfl, R8, small_one (by omega) (by omega) (by omega) (by omega), by rw [range_size]; rfl, by rw [sizeLine_eq]; exact ar300 hsz, F8', N8', ?_, ?_, ?_⟩
    · intro C a' v' s₂ m₂ E' hC ha' hv' hn' hm' hk'
      obtain ⟨j, hj, rfl⟩ := List.mem_map.mp ha'
      obtain ⟨tv, rfl⟩ := hv'
      have hj := List.mem_range.mp hj
      obtain ⟨tt, tu, ta, tb, tn2, tw, q1, q2, q3⟩ := hsw.at (i := j) (by rw [← hsw.len]; exact hj)
      have up2 : ∀ z o, (z, o) ∈ (J, oJ) :: (pa, listOf pvs.toArray pn) :: (D, listOf vs.toArray dn) :: (L' + 1 + 1 + 1 + 1, o4) :: (L' + 1 + 1 + 1, o3) :: (L' + 1 + 1, c2) :: (L' + 1, c1) :: (ex ++ H) → s₂.heap.get? z = some o := fun z o hz => hk' z o (N8' (z, o) (id hz)).1
      have hls : s₂.heap.IsList sa svs.toArray := ⟨_, up2 _ _ (.tail _ (.tail _ (.tail _ (.tail _ (.tail _ (.tail _ (.tail _ (List.mem_append_right _ hs)))))))), rfl, _, rfl⟩
      have htt : PyProof.Rows.IsTup s₂.heap tt #[.ref tu, .ref ta, .bool tb] := ⟨_, up2 _ _ (.tail _ (.tail _ (.tail _ (.tail _ (.tail _ (.tail _ (.tail _ (List.mem_append_right _ q3)))))))), rfl, _, rfl⟩
      have hcS : s₂.heap.IsCell (L' + 1) (some (.ref sa)) := ⟨_, up2 _ _ (.tail _ (.tail _ (.tail _ (.tail _ (.tail _ (.tail _ (.head _))))))), d1⟩
      have hcO : s₂.heap.IsCell (L' + 1 + 1 + 1) (some (.ref a)) := ⟨_, up2 _ _ (.tail _ (.tail _ (.tail _ (.tail _ (.head _))))), g3⟩
      have upB : ∀ z o, hB.get? z = some o → s₂.heap.get? z = some o := fun z o e => hk' z o (F8'.keep z o (st1 z o e))
      have hia : IsItem s₂.heap ta := by
        obtain ⟨d, hd⟩ := isw _ (List.mem_of_getElem? q2)
        exact ⟨d, upB _ _ hd⟩
      have hib : IsItem s₂.heap a := by
        obtain ⟨d, hd⟩ := (ips _ hmem).1
        exact ⟨d, upB _ _ hd⟩
      have hpz : decide ((sw[((0 : Int) + (j : Int) * 1).toNat]?).map (·.2.1) = some a) = decide (ta = a) := by
        have e1 : ((0 : Int) + (j : Int) * 1).toNat = j := by exact ar301 hj
        rw [e1, q2]; simp
      rw [hpz]
      refine tests_one ?_
      have FC : Fr h8 C s₂.heap m₂ := ⟨hn', hk', hC⟩
      have NC : News h8 C s₂.heap [] := fun _ h => nomatch h
      have XC := X1.keeps F8'.keep
      k_with_none
      k_with "eval Name" => first | (k_dflt (refine ldVarK hn' hm' ?_ rfl rfl (by decide))) | (k_dflt (refine ldCellK (c := (L' + 1)) rfl hcS ?_ rfl rfl (by decide))) | (k_dflt (refine ldCellK (c := (L' + 1 + 1 + 1)) rfl hcO ?_ rfl rfl (by decide)))
      k_with "subscriptTail" => first | (k_dflt (refine PyProof.Rows.item_list hls (by exact ar302) (by omega) (x := .ref tt) (by rw [show ((0 : Int) + (j : Int) * 1).toNat = j by exact ar301 hj]; simpa using q1) ?_)) | (k_dflt (refine PyProof.Rows.item_tuple (j := 1) (x := .ref ta) htt (by decide) (by decide) rfl rfl ?_))
      k_with "compareOp Is ref ref" => (k_dflt (refine is_refs hia hib ?_))
      clear F8' N8'
      try k_fold
      k_steps

      all_goals first | exact ⟨s₂.heap, _, rfl, fun _ _ e => e⟩ | exact ⟨by first | rfl | assumption | (symm; assumption) | simp_all, s₂.heap, _, rfl, fun _ _ e => e⟩
    · intro C a' v' s₂ m₂ E' hC ha' hv' hpz hn' hm' hk'
      obtain ⟨tv, rfl⟩ := hv'
      exact ldVarK hn' hm' ⟨.int _ tv, s₂.heap, s₂.toks, rfl, fun _ _ e => e⟩ rfl rfl (by decide)
    · intro P1 ys8 h8b tk8b F8b N8b gn8 _ np8 cy8
      have nv8 : NatV ys8 (placeOf sw a) := natV_of (by rw [← hsw.len]) cy8
      have nl8 := NewPlain.ne_locals np8 F8b
      obtain ⟨⟨P1n, np8'⟩, off8⟩ := np8
      clear R8 F8' N8'
      have N9 : News g L' h8b ((J, oJ) :: (pa, listOf pvs.toArray pn) :: (D, listOf vs.toArray dn) :: (L' + 1 + 1 + 1 + 1, o4) :: (L' + 1 + 1 + 1, o3) :: (L' + 1 + 1, c2) :: (L' + 1, c1) :: (((P1, listOf ys8.toArray P1n) :: ex) ++ H)) := by
        intro q hq
        simp only [List.mem_cons, List.mem_append] at hq
        rcases hq with h | h | h | h | h | h | h | (h | h) | h
        · exact N8b _ (by rw [h]; exact .head _)
        · exact N8b _ (by rw [h]; exact .tail _ (.head _))
        · exact N8b _ (by rw [h]; exact .tail _ (.tail _ (.head _)))
        · exact N8b _ (by rw [h]; exact .tail _ (.tail _ (.tail _ (.head _))))
        · exact N8b _ (by rw [h]; exact .tail _ (.tail _ (.tail _ (.tail _ (.head _)))))
        · exact N8b _ (by rw [h]; exact .tail _ (.tail _ (.tail _ (.tail _ (.tail _ (.head _))))))
        · exact N8b _ (by rw [h]; exact .tail _ (.tail _ (.tail _ (.tail _ (.tail _ (.tail _ (.head _)))))))
        · rw [h]; exact ⟨np8', nl8, gn8⟩
        · exact N8b _ (.tail _ (.tail _ (.tail _ (.tail _ (.tail _ (.tail _ (.tail _ (List.mem_append_left _ h))))))))
        · exact N8b _ (mH _ h)
      have mH2 : ∀ q ∈ H, q ∈ (J, oJ) :: (pa, listOf pvs.toArray pn) :: (D, listOf vs.toArray dn) :: (L' + 1 + 1 + 1 + 1, o4) :: (L' + 1 + 1 + 1, o3) :: (L' + 1 + 1, c2) :: (L' + 1, c1) :: (((P1, listOf ys8.toArray P1n) :: ex) ++ H) := fun q hq => .tail _ (.tail _ (.tail _ (.tail _ (.tail _ (.tail _ (.tail _ (List.mem_append_right _ hq)))))))
      clear N8b
      k_with_none
      k_with "exec Assign Name ListComp cons" => (refine stop_here ?_)
      k_with "exec Assign Name ListComp" => (refine stop_here ?_)
      try k_fold
      k_steps
      k_dflt (refine' Assign_ListComp_DCr (h₀ := g) (L := L') (m := fun x => if x = Str.ofString "place" then some (Value.ref P1) else if x = Str.ofString "spot" then sv else if x = Str.ofString "place" then pv else if x = Str.ofString "found" then some (Value.ref D) else if x = Str.ofString "pairs" then some (Value.ref pa) else none) (pz := fun i => decide ((ow[i.toNat]?).map (·.2.1) = some b)) (d := PyData.int) ?hsw rfl hh ?hclos ?hcell ?hkind ?hnames ?hx ?hy ?hp ?_ ?hs)
      case hsw => rfl
      case hclos => rfl
      case hcell => decide
      case hkind => rfl
      case hnames => decide
      case hx => rfl
      case hy => rfl
      case hp => rfl
      case hs => intro _; rfl
      k_with_none
      k_with "call builtin:len" => (refine stop_here ?_)
      k_with "call type:range" => (refine stop_here ?_)
      try k_fold
      k_steps
      refine ⟨?_⟩
      k_dflt (refine call_len_list (News.isList N9 (mH2 _ ho)) (by rw [List.size_toArray]; omega) ?_)
      k_steps
      refine ⟨?_⟩
      rename Fr g L' _ _ => F10
      rename News g L' _ _ => N10
      k_dflt (refine range_K F10 N10 ?_)
      intro r10 h10 tk10 t110 t210 F10' N10' lr10 R10
      clear F10 N10
      first | (show qk _ _) | skip
      k_unfold
      dsimp only
      rw [List.size_toArray] at R10
      refine ⟨_, r10, 0, _, 1, _, _, _, ovs.length, rfl, R10, small_one (by omega) (by omega) (by omega) (by omega), by rw [range_size]; rfl, by rw [sizeLine_eq]; exact ar305 hsz, F10', N10', ?_, ?_, ?_⟩
      · intro C a' v' s₂ m₂ E' hC ha' hv' hn' hm' hk'
        obtain ⟨j, hj, rfl⟩ := List.mem_map.mp ha'
        obtain ⟨tv, rfl⟩ := hv'
        have hj := List.mem_range.mp hj
        obtain ⟨tt, tu, ta, tb, tn2, tw, q1, q2, q3⟩ := how.at (i := j) (by rw [← how.len]; exact hj)
        have up2 : ∀ z o, (z, o) ∈ (J, oJ) :: (pa, listOf pvs.toArray pn) :: (D, listOf vs.toArray dn) :: (L' + 1 + 1 + 1 + 1, o4) :: (L' + 1 + 1 + 1, o3) :: (L' + 1 + 1, c2) :: (L' + 1, c1) :: (((P1, listOf ys8.toArray P1n) :: ex) ++ H) → s₂.heap.get? z = some o := fun z o hz => hk' z o (N10' (z, o) (id hz)).1
        have hls : s₂.heap.IsList oa ovs.toArray := ⟨_, up2 _ _ (.tail _ (.tail _ (.tail _ (.tail _ (.tail _ (.tail _ (.tail _ (List.mem_append_right _ ho)))))))), rfl, _, rfl⟩
        have htt : PyProof.Rows.IsTup s₂.heap tt #[.ref tu, .ref ta, .bool tb] := ⟨_, up2 _ _ (.tail _ (.tail _ (.tail _ (.tail _ (.tail _ (.tail _ (.tail _ (List.mem_append_right _ q3)))))))), rfl, _, rfl⟩
        have hcS : s₂.heap.IsCell (L' + 1 + 1) (some (.ref oa)) := ⟨_, up2 _ _ (.tail _ (.tail _ (.tail _ (.tail _ (.tail _ (.head _)))))), d2⟩
        have hcO : s₂.heap.IsCell (L' + 1 + 1 + 1 + 1) (some (.ref b)) := ⟨_, up2 _ _ (.tail _ (.tail _ (.tail _ (.head _)))), g4⟩
        have upB : ∀ z o, hB.get? z = some o → s₂.heap.get? z = some o := fun z o e => hk' z o (F10'.keep z o (st1 z o e))
        have hia : IsItem s₂.heap ta := by
          obtain ⟨d, hd⟩ := iow _ (List.mem_of_getElem? q2)
          exact ⟨d, upB _ _ hd⟩
        have hib : IsItem s₂.heap b := by
          obtain ⟨d, hd⟩ := (ips _ hmem).2
          exact ⟨d, upB _ _ hd⟩
        have hpz : decide ((ow[((0 : Int) + (j : Int) * 1).toNat]?).map (·.2.1) = some b) = decide (ta = b) := by
          have e1 : ((0 : Int) + (j : Int) * 1).toNat = j := by exact ar301 hj
          rw [e1, q2]; simp
        rw [hpz]
        refine tests_one ?_
        have FC : Fr h10 C s₂.heap m₂ := ⟨hn', hk', hC⟩
        have NC : News h10 C s₂.heap [] := fun _ h => nomatch h
        have XC := X1.keeps F10'.keep
        k_with_none
        k_with "eval Name" => first | (k_dflt (refine ldVarK hn' hm' ?_ rfl rfl (by decide))) | (k_dflt (refine ldCellK (c := (L' + 1 + 1)) rfl hcS ?_ rfl rfl (by decide))) | (k_dflt (refine ldCellK (c := (L' + 1 + 1 + 1 + 1)) rfl hcO ?_ rfl rfl (by decide)))
        k_with "subscriptTail" => first | (k_dflt (refine PyProof.Rows.item_list hls (by exact ar302) (by omega) (x := .ref tt) (by rw [show ((0 : Int) + (j : Int) * 1).toNat = j by exact ar301 hj]; simpa using q1) ?_)) | (k_dflt (refine PyProof.Rows.item_tuple (j := 1) (x := .ref ta) htt (by decide) (by decide) rfl rfl ?_))
        k_with "compareOp Is ref ref" => (k_dflt (refine is_refs hia hib ?_))
        clear F10' N10'
        try k_fold
        k_steps

        all_goals first | exact ⟨s₂.heap, _, rfl, fun _ _ e => e⟩ | exact ⟨by first | rfl | assumption | (symm; assumption) | simp_all, s₂.heap, _, rfl, fun _ _ e => e⟩
      · intro C a' v' s₂ m₂ E' hC ha' hv' hpz hn' hm' hk'
        obtain ⟨tv, rfl⟩ := hv'
        exact ldVarK hn' hm' ⟨.int _ tv, s₂.heap, s₂.toks, rfl, fun _ _ e => e⟩ rfl rfl (by decide)
      · intro P2 ys10 h10b tk10b F10b N10b gn10 _ np10 cy10
        have nv10 : NatV ys10 (placeOf ow b) := natV_of (by rw [← how.len]) cy10
        have nl10 := NewPlain.ne_locals np10 F10b
        obtain ⟨⟨P2n, np10'⟩, off10⟩ := np10
        clear R10 F10' N10'
        have N11 : News g L' h10b ((J, oJ) :: (pa, listOf pvs.toArray pn) :: (D, listOf vs.toArray dn) :: (L' + 1 + 1 + 1 + 1, o4) :: (L' + 1 + 1 + 1, o3) :: (L' + 1 + 1, c2) :: (L' + 1, c1) :: ((P2, listOf ys10.toArray P2n) :: (P1, listOf ys8.toArray P1n) :: ex ++ H)) := by
          intro q hq
          simp only [List.mem_cons, List.mem_append] at hq
          rcases hq with h | h | h | h | h | h | h | (h | h | h) | h
          · exact N10b _ (by rw [h]; exact .head _)
          · exact N10b _ (by rw [h]; exact .tail _ (.head _))
          · exact N10b _ (by rw [h]; exact .tail _ (.tail _ (.head _)))
          · exact N10b _ (by rw [h]; exact .tail _ (.tail _ (.tail _ (.head _))))
          · exact N10b _ (by rw [h]; exact .tail _ (.tail _ (.tail _ (.tail _ (.head _)))))
          · exact N10b _ (by rw [h]; exact .tail _ (.tail _ (.tail _ (.tail _ (.tail _ (.head _))))))
          · exact N10b _ (by rw [h]; exact .tail _ (.tail _ (.tail _ (.tail _ (.tail _ (.tail _ (.head _)))))))
          · rw [h]; exact ⟨np10', nl10, gn10⟩
          · exact N10b _ (by rw [h]; exact .tail _ (.tail _ (.tail _ (.tail _ (.tail _ (.tail _ (.tail _ (List.mem_append_left _ (.head _)))))))))
          · exact N10b _ (.tail _ (.tail _ (.tail _ (.tail _ (.tail _ (.tail _ (.tail _ (List.mem_append_left _ (.tail _ h)))))))))
          · exact N10b _ (mH2 _ h)
        clear N10b
        k_with_none
        k_with "newTuple" => (k_here; k_dflt (refine' kup_newTuple ?F ?N ?_ ?z; (case F => k_asm); (case N => k_asm); (case z => kmk_size)); intro TA hTA FTA NTA lTA; (try k_sweep))
        k_with "call builtin:list.append" => (refine stop_here ?_)
        try k_fold
        k_steps
        refine ⟨?_⟩
        rename Fr g L' _ _ => F12
        rename News g L' _ _ => N12
        have hvl : vs.length < 10000 := by
          rw [hpl.len, List.length_map]
          refine Nat.lt_of_le_of_lt (List.length_take_le' _ _) ?_
          exact ar307 hpz
        have lTA1 : ∀ q ∈ (J, oJ) :: (pa, listOf pvs.toArray pn) :: (D, listOf vs.toArray dn) :: (L' + 1 + 1 + 1 + 1, o4) :: (L' + 1 + 1 + 1, o3) :: (L' + 1 + 1, c2) :: (L' + 1, c1) :: ((P2, listOf ys10.toArray P2n) :: (P1, listOf ys8.toArray P1n) :: ex ++ H), @LT.lt Nat _ q.1 TA := lTA
        have lTA2 : ∀ q ∈ (J, oJ) :: (pa, listOf pvs.toArray pn) :: (D, listOf vs.toArray dn) :: (L' + 1 + 1 + 1 + 1, o4) :: (L' + 1 + 1 + 1, o3) :: (L' + 1 + 1, c2) :: (L' + 1, c1) :: ((P2, listOf ys10.toArray P2n) :: (P1, listOf ys8.toArray P1n) :: ex ++ H), TA ≠ q.1 := fun q hq e => Nat.lt_irrefl _ (e ▸ lTA1 q hq)
        have offD : ∀ q ∈ (TA, tupOf #[.ref P1, .ref P2] 0) :: (J, oJ) :: (pa, listOf pvs.toArray pn) :: (L' + 1 + 1 + 1 + 1, o4) :: (L' + 1 + 1 + 1, o3) :: (L' + 1 + 1, c2) :: (L' + 1, c1) :: ((P2, listOf ys10.toArray P2n) :: (P1, listOf ys8.toArray P1n) :: ex ++ H), q.1 ≠ D := by
          intro q hq
          simp only [List.mem_cons, List.mem_append] at hq
          rcases hq with h | h | h | h | h | h | h | (h | h | h) | h
          · rw [h]; exact lTA2 _ (.tail _ (.tail _ (.head _)))
          · rw [h]; exact fun e => by have e' : @Eq Nat J D := e; exact ar308 lDJ e'
          · rw [h]; exact fun e => by have e' : @Eq Nat pa D := e; exact ar309 lDD lpa e'
          · rw [h]; exact fun e => by have e' : @Eq Nat (L' + 1 + 1 + 1 + 1) D := e; exact ar310 lDD e'
          · rw [h]; exact fun e => by have e' : @Eq Nat (L' + 1 + 1 + 1) D := e; exact ar311 lDD e'
          · rw [h]; exact fun e => by have e' : @Eq Nat (L' + 1 + 1) D := e; exact ar312 lDD e'
          · rw [h]; exact fun e => by have e' : @Eq Nat (L' + 1) D := e; exact ar313 lDD e'
          · rw [h]; exact (off10 (D, listOf vs.toArray dn) (.tail _ (.tail _ (.head _)))).symm
          · rw [h]; exact (off8 (D, listOf vs.toArray dn) (.tail _ (.tail _ (.head _)))).symm
          · exact (hex q h).1
          · exact fun e => by have := lH q h; have e' : @Eq Nat q.1 D := e; exact ar309 lDD this e'
        refine append_K (its := vs.toArray) (n := dn) (x := .ref TA) F12 (News.sub N12 (l' := (D, listOf vs.toArray dn) :: (TA, tupOf #[.ref P1, .ref P2] 0) :: (J, oJ) :: (pa, listOf pvs.toArray pn) :: (L' + 1 + 1 + 1 + 1, o4) :: (L' + 1 + 1 + 1, o3) :: (L' + 1 + 1, c2) :: (L' + 1, c1) :: ((P2, listOf ys10.toArray P2n) :: (P1, listOf ys8.toArray P1n) :: ex ++ H)) ?_) (Upd.head offD) ?_ (by rw [List.size_toArray, sizeLine_eq]; exact ar294 hvl)
        · intro q hq
          exact (by walk_at "mine subs" : ∀ z ∈ _, z ∈ _) q hq
        intro h13 F13 N13
        have ea : vs.toArray.push (.ref TA) = (vs ++ [Value.ref TA]).toArray := by simp
        rw [ea] at N13
        clear N12 F12
        k_with_none
        try k_fold
        k_steps
        rename Fr g L' _ _ => Fz
        rename News g L' _ _ => Nz
        have EX3 : PlaceL ((TA, tupOf #[.ref P1, .ref P2] 0) :: (P2, listOf ys10.toArray P2n) :: (P1, listOf ys8.toArray P1n) :: ex) (vs ++ [Value.ref TA]) ((ps.take (i + 1)).map fun q => (placeOf sw q.1, placeOf ow q.2)) := by
          rw [List.take_add_one, hab, List.map_append]
          refine (hpl.mono fun q h => .tail _ (.tail _ (.tail _ h))).append ?_
          exact .cons (.head _) (.tail _ (.tail _ (.head _))) nv8 (.tail _ (.head _)) nv10 .nil
        refine ⟨⟨_, _, _, (D, listOf (vs ++ [Value.ref TA]).toArray (dn + 1)) :: (L' + 1 + 1 + 1 + 1, o4) :: (L' + 1 + 1 + 1, o3) :: (L' + 1 + 1, c2) :: (L' + 1, c1) :: (((TA, tupOf #[.ref P1, .ref P2] 0) :: (P2, listOf ys10.toArray P2n) :: (P1, listOf ys8.toArray P1n) :: ex) ++ H), rfl, Fz, News.sub Nz ?_, ?_, vs ++ [Value.ref TA], dn + 1, o4, o3, _, _, _, rfl, g4, g3, EX3, ?_, some (.ref P1), some (.ref P2), fun z => ?_⟩⟩
        · intro q hq
          exact (by walk_at "mine subs" : ∀ z ∈ _, z ∈ _) q hq
        · intro q hq
          simp only [List.mem_cons, List.mem_append] at hq
          rcases hq with h | h | h | h | h | (h | h | h | h) | h
          · rw [h]; exact hoff (D, listOf vs.toArray dn) (.head _)
          · rw [h]; exact fun e => by have e' : @Eq Nat (L' + 1 + 1 + 1 + 1) J := e; exact ar314 lDD e' lDJ
          · rw [h]; exact fun e => by have e' : @Eq Nat (L' + 1 + 1 + 1) J := e; exact ar315 lDD e' lDJ
          · rw [h]; exact fun e => by have e' : @Eq Nat (L' + 1 + 1) J := e; exact ar316 lDD e' lDJ
          · rw [h]; exact fun e => by have e' : @Eq Nat (L' + 1) J := e; exact ar317 lDD e' lDJ
          · rw [h]; exact lTA2 _ (.head _)
          · rw [h]; exact (off10 _ (.head _)).symm
          · rw [h]; exact (off8 _ (.head _)).symm
          · exact hoff q (.tail _ (.tail _ (.tail _ (.tail _ (.tail _ (List.mem_append_left _ h))))))
          · exact hoff q (.tail _ (.tail _ (.tail _ (.tail _ (.tail _ (List.mem_append_right _ h))))))
        · intro q hq
          simp only [List.mem_cons] at hq
          rcases hq with h | h | h | h
          · rw [h]; exact ⟨lTA2 _ (.tail _ (.tail _ (.head _))), lTA2 _ (.tail _ (.tail _ (.tail _ (.head _)))), lTA2 _ (.tail _ (.tail _ (.tail _ (.tail _ (.head _)))))⟩
          · rw [h]; exact ⟨(off10 _ (.tail _ (.tail _ (.head _)))).symm, (off10 _ (.tail _ (.tail _ (.tail _ (.head _))))).symm, (off10 _ (.tail _ (.tail _ (.tail _ (.tail _ (.head _)))))).symm⟩
          · rw [h]; exact ⟨(off8 _ (.tail _ (.tail _ (.head _)))).symm, (off8 _ (.tail _ (.tail _ (.tail _ (.head _))))).symm, (off8 _ (.tail _ (.tail _ (.tail _ (.tail _ (.head _)))))).symm⟩
          · exact hex q h
        · by_cases z1 : z = Str.ofString "spot"
          · subst z1; with_unfolding_all rfl
          · by_cases z2 : z = Str.ofString "place"
            · subst z2; with_unfolding_all rfl
            · simp only [if_neg z1, if_neg z2]
  · rintro m₁ news₁ h10 tk10 ⟨vs, dn, o4, o3, v4, v3, ex, rfl, e4, e3, hpl, hex, pv, sv, hm⟩ F10 N10
    have em := funext hm
    subst em
    rw [hps.len, List.take_length] at hpl
    change Fr g L' _ _ at F10
    change News g L' _ ((pa, listOf pvs.toArray pn) :: (D, listOf vs.toArray dn) :: (L' + 1 + 1 + 1 + 1, o4) :: (L' + 1 + 1 + 1, o3) :: (L' + 1 + 1, c2) :: (L' + 1, c1) :: (ex ++ H)) at N10
    k_with "call builtin:sorted" => (refine stop_here ?_)
    try k_fold
    k_steps
    refine ⟨?_⟩
    rename Fr g L' _ _ => F11
    rename News g L' _ _ => N11
    rw [hqs] at hpl
    have hvl : vs.length = qs.length := by rw [hpl.len, List.length_map]
    have exm : ∀ q ∈ ex, q ∈ (pa, listOf pvs.toArray pn) :: (D, listOf vs.toArray dn) :: (L' + 1 + 1 + 1 + 1, o4) :: (L' + 1 + 1 + 1, o3) :: (L' + 1 + 1, c2) :: (L' + 1, c1) :: (ex ++ H) := fun q hq => .tail _ (.tail _ (.tail _ (.tail _ (.tail _ (.tail _ (List.mem_append_left _ hq))))))
    refine sorted_c (Out := SortedP ex qs) F11 N11 (.tail _ (.head _)) (by exact ar318 hvl hq64) (fun h2 => ⟨qs, .refl _, ?_, hpl⟩) (fun h2 h' F' N' => sort_places hpl (fun q hq => (N' q (exm q hq)).1) hnd hsm hq64 (by exact ar319 h2 hvl) (by show A.units + 3 + 1 + 1 + 64 < 9900; exact ar320 hu)) ?_
    · match qs, hvl, h2 with
      | [], _, _ => exact .nil
      | [x], _, _ => exact List.pairwise_singleton _ _
      | x :: y :: r, e, h2 => simp only [List.length_cons] at e; omega
    intro D2 out h12 c12 hout F12 N12 lD2
    obtain ⟨z5, z6⟩ := leaveFresh F12 (News.sub (l' := (D2, listOf out.toArray c12) :: (ex ++ H)) N12 fun q hq => by
      rcases List.mem_cons.mp hq with h | h
      · rw [h]; exact .head _
      · exact .tail _ (.tail _ (.tail _ (.tail _ (.tail _ (.tail _ (.tail _ h))))))) up
    exact kk _ _ _ _ z5 z6 ⟨D2, c12, out, ex, rfl, rfl, hout⟩
end
end
section
-- L1
open PySem.Spec
theorem poolOk_of {P : Nat} (hP : P = 80) {ns : List Int} : ∀ {ys : List Value}, IntsAre ys (ns.map fun k => (if k < 0 then -k else k).fmod (10 ^ P)) → ns.length ≤ 24 → PoolOk ys := by
  subst hP
  intro ys h hl
  have hlen : ys.length = ns.length := by rw [h.length, List.length_map]
  refine ⟨by exact ar435 hlen hl, ?_⟩
  clear hl hlen
  induction ns generalizing ys with
  | nil => cases h; exact fun _ h => nomatch h
  | cons n ns ih =>
    cases h with
    | cons _ t r =>
      intro v hv
      rcases List.mem_cons.mp hv with rfl | hv
      · exact ⟨_, _, rfl, fmod_lo _ (by decide), fmod_hi _ (by decide)⟩
      · exact ih r v hv

/-- a heap that holds the base and these objects alone -/
theorem mkBase {h₀ h : Heap} {L : Addr} {m : Str → Option Value} {led : List (Addr × Obj)} (F : Fr h₀ L h m) (N : News h₀ L h led) :
    ∃ hT : Heap, h₀.StaysIn hT ∧ (∀ q ∈ led, hT.get? q.1 = some q.2) ∧ (∀ h2 : Heap, h₀.StaysIn h2 → (∀ q ∈ led, h2.get? q.1 = some q.2) → hT.StaysIn h2) ∧ (∀ b, h₀.get? b = none → (∀ q ∈ led, q.1 ≠ b) → hT.get? b = none) := by
  let hid : List Addr := (List.range h.objs.size).filter fun b => (h₀.get? b).isNone && !(led.any fun q => decide (q.1 = b))
  have hid_of : ∀ b, b ∈ hid → h₀.get? b = none ∧ ∀ q ∈ led, q.1 ≠ b := fun b hb => by
    have h1 := (List.mem_filter.mp hb).2
    rw [Bool.and_eq_true] at h1
    refine ⟨by simpa using h1.1, fun q hq e => ?_⟩
    have h2 := h1.2
    rw [Bool.not_eq_true', List.any_eq_false] at h2
    exact h2 q hq (decide_eq_true e)
  have none_of : ∀ b, h₀.get? b = none → (∀ q ∈ led, q.1 ≠ b) → (hideAll h hid).get? b = none := fun b e k => by
    cases hg : (hideAll h hid).get? b with
    | none => rfl
    | some o =>
      have h1 := of_hideAll _ hg
      have h2 : b ∈ hid := List.mem_filter.mpr ⟨List.mem_range.mpr (Heap.lt_size h1), by
        rw [Bool.and_eq_true]
        refine ⟨by rw [e]; rfl, ?_⟩
        rw [Bool.not_eq_true', List.any_eq_false]
        intro q hq h; exact k q hq (of_decide_eq_true h)⟩
      rw [hideAll_none _ h2] at hg; cases hg
  refine ⟨hideAll h hid, fun b o e => hideAll_get _ (F.keep b o e) fun hb => ?_, fun q hq => hideAll_get _ (N q hq).1 fun hb => (hid_of _ hb).2 q hq rfl, fun h2 k1 k2 b o e => ?_, none_of⟩
  · rw [(hid_of b hb).1] at e; cases e
  · have e' := of_hideAll _ e
    cases hb : h₀.get? b with
    | some o' =>
      have := F.keep b o' hb
      rw [e'] at this; cases this
      exact k1 b o hb
    | none =>
      by_cases hm : ∃ q ∈ led, q.1 = b
      · obtain ⟨q, hq, rfl⟩ := hm
        have := (N q hq).1
        rw [e'] at this; cases this
        exact k2 q hq
      · rw [none_of b hb fun q hq r => hm ⟨q, hq, r⟩] at e; cases e

theorem clauses_dep (n : Nd) : PyData.depth (clausesD n) ≤ 3 := by
  unfold clausesD
  cases n.occ <;> exact Nat.le_of_ble_eq_true rfl
theorem told_dep {c k r d : Nat} (hc : c ≤ 3) (hk : k ≤ 2 * d + 4) (hr : r ≤ 2 * (d + 1) + 4) : max (max 0 (max 0 (max c (max (0 + 1) (max (k + 1) 0)))) + 1) r ≤ 2 * (d + 1) + 4 :=
  Nat.max_le.mpr ⟨Nat.succ_le_succ (Nat.max_le.mpr ⟨Nat.zero_le _, Nat.max_le.mpr ⟨Nat.zero_le _, Nat.max_le.mpr ⟨by exact ar436 hc, Nat.max_le.mpr ⟨by exact ar437, Nat.max_le.mpr ⟨by exact ar438 hk, Nat.zero_le _⟩⟩⟩⟩⟩ : _ ≤ 2 * d + 5), hr⟩
/-- what told tells can be laid -/
theorem toldD_ok : ∀ (g : G) (d : Nat), g.UsOk → g.Bd d → PyData.canLayAll0 (toldD g) = true ∧ PyData.depthAll (toldD g) ≤ 2 * d + 4
  | .nil, _, _, _ => ⟨rfl, Nat.zero_le _⟩
  | .cons _ _ _ _, 0, _, h => h.elim
  | .cons x n k r, d + 1, hu, hb => by
    obtain ⟨⟨_, o1, o2, o3⟩, hk, hr⟩ := hu
    have ik := toldD_ok k d hk hb.2.1
    have ir := toldD_ok r (d + 1) hr hb.2.2
    constructor
    · have hocc : PyData.canLay0 (occD n.occ) = true := by cases n.occ <;> rfl
      simp [toldD, clausesD, PyData.canLayAll0, PyData.canLay0, o1, o2, o3, so0, ik.1, ir.1, hocc]
    · exact told_dep (clauses_dep n) ik.2 ir.2

theorem eqvAll_strs : ∀ a b : List Str, PyData.eqvAll (a.map PyData.str) (b.map PyData.str) = decide (a = b)
  | [], [] => by simp [PyData.eqvAll]
  | [], _ :: _ => by simp [PyData.eqvAll]
  | _ :: _, [] => by simp [PyData.eqvAll]
  | a :: r, b :: t => by
    simp only [List.map_cons, PyData.eqvAll, PyData.eqv, eqvAll_strs r t]
    by_cases h : a = b <;> by_cases h' : r = t <;> simp [h, h']
theorem strV_reads {h : Heap} {vs : List Value} {ss : List Str} (k : StrV vs ss) : ReadsAll h vs (ss.map PyData.str) [] := by
  induction k with
  | nil => exact .nil
  | cons _ ih => exact readsAll_cons0 (.str _ _) ih
theorem shaped_strs {ss : List Str} (k : ∀ x ∈ ss, PyData.strOk x = true) : SeqAt.shaped (.tuple (ss.map PyData.str)) = true := by
  have h1 : PyData.canLayAll0 (ss.map PyData.str) = true ∧ PyData.depthAll (ss.map PyData.str) = 0 := by
    induction ss with
    | nil => exact ⟨rfl, rfl⟩
    | cons s r ih =>
      have h2 := ih fun x hx => k x (.tail _ hx)
      simp [PyData.canLayAll0, PyData.canLay0, PyData.depthAll, PyData.depth, k s (.head _), h2.1, h2.2]
  simp [SeqAt.shaped, PyData.canLay0, PyData.depth, h1.1, h1.2]

noncomputable def placeD (q : Nat × Nat) : PyData := .tuple [.list [.int (q.1 : Int)], .list [.int (q.2 : Int)]]
theorem placeL_reads {ex : List (Addr × Obj)} {h : Heap} {vs : List Value} {ps : List (Nat × Nat)} (H : PlaceL ex vs (ps.map sg)) (up : ∀ q ∈ ex, h.get? q.1 = some q.2) : ∃ as, ReadsAll h vs (ps.map placeD) as := by
  generalize hm : ps.map sg = l at H
  induction H generalizing ps with
  | nil =>
    cases ps with
    | nil => exact ⟨_, .nil⟩
    | cons _ _ => simp at hm
  | cons h1 h2 h3 h4 h5 _ ih =>
    cases ps with
    | nil => simp at hm
    | cons p ps =>
      obtain ⟨e1, e2⟩ := List.cons.inj (by simpa using hm)
      unfold sg at e1
      obtain ⟨ea, eb⟩ := Prod.mk.inj e1
      subst ea eb
      obtain ⟨t1, rfl⟩ := natV_one h3
      obtain ⟨t2, rfl⟩ := natV_one h5
      obtain ⟨as, ha⟩ := ih e2
      exact ⟨_, ReadsAll.cons (reads_tuple_at (up _ h1) rfl rfl (ReadsAll.cons (reads_list_at (up _ h2) rfl rfl (ReadsAll.cons (.int _ _) .nil)) (ReadsAll.cons (reads_list_at (up _ h4) rfl rfl (ReadsAll.cons (.int _ _) .nil)) .nil))) ha⟩
theorem shaped_places (ps : List (Nat × Nat)) : SeqAt.shaped (.list (ps.map placeD)) = true := by
  have h1 : PyData.canLayAll0 (ps.map placeD) = true ∧ PyData.depthAll (ps.map placeD) ≤ 2 := by
    induction ps with
    | nil => exact ⟨rfl, Nat.zero_le _⟩
    | cons s r ih =>
      have h2 := ih.2
      refine ⟨by simp [placeD, PyData.canLayAll0, PyData.canLay0, ih.1], ?_⟩
      simp only [List.map_cons, placeD, PyData.depthAll, PyData.depth] at h2 ⊢
      omega
  have h2 := h1.2
  have h3 : PyData.depth (.list (ps.map placeD)) ≤ 64 := by
    simp only [PyData.depth]; omega
  exact Bool.and_eq_true_iff.mpr ⟨by simp only [PyData.canLay0]; exact h1.1, decide_eq_true h3⟩
theorem reads_list_of {h : Heap} {D : Addr} {vs : List Value} {n : Nat} {ds : List PyData} (hD : h.get? D = some (listOf vs.toArray n)) (k : ∃ as, ReadsAll h vs ds as) : ∃ as, Reads h (.ref D) (.list ds) as := by
  obtain ⟨as, k⟩ := k
  exact ⟨_, reads_list_at hD rfl rfl k⟩
end
section
-- P1
open PySem.Spec
/-- is this pair of places due? -/
noncomputable def dueB (sw ow : List Way) (i j : Nat) : Bool := match sw[i]?, ow[j]? with
  | some a, some b => decide (a.1 = b.1) && !(a.2.2 && b.2.2)
  | _, _ => false
noncomputable def dueAt (sw ow : List Way) (i n : Nat) : List (Nat × Nat) := ((List.range n).filter (dueB sw ow i)).map fun j => (i, j)
noncomputable def dueL (sw ow : List Way) (m : Nat) : List (Nat × Nat) := (List.range m).flatMap fun i => dueAt sw ow i ow.length
theorem dueAt_yes {sw ow : List Way} {i j : Nat} (h : dueB sw ow i j = true) : dueAt sw ow i (j + 1) = dueAt sw ow i j ++ [(i, j)] := by
  simp [dueAt, List.range_succ, List.filter_append, h]
theorem dueAt_no {sw ow : List Way} {i j : Nat} (h : dueB sw ow i j = false) : dueAt sw ow i (j + 1) = dueAt sw ow i j := by
  simp [dueAt, List.range_succ, List.filter_append, h]
theorem dueL_succ (sw ow : List Way) (i : Nat) : dueL sw ow (i + 1) = dueL sw ow i ++ dueAt sw ow i ow.length := by
  simp [dueL, List.range_succ, List.flatMap_append]
theorem dueB_of {sw ow : List Way} {i j : Nat} {v w : List Str} {a b : Addr} {c d : Bool} (h1 : sw[i]? = some (v, a, c)) (h2 : ow[j]? = some (w, b, d)) : dueB sw ow i j = (decide (v = w) && !(c && d)) := by
  unfold dueB; rw [h1, h2]
theorem dueAt_len (sw ow : List Way) (i n : Nat) : (dueAt sw ow i n).length ≤ n := by
  unfold dueAt
  rw [List.length_map]
  exact Nat.le_trans (List.length_filter_le _ _) (Nat.le_of_eq List.length_range)
theorem dueL_len (sw ow : List Way) (m : Nat) : (dueL sw ow m).length ≤ m * ow.length := by
  have := len_flatMap (f := fun i => dueAt sw ow i ow.length) (c := ow.length) (l := List.range m) fun i _ => dueAt_len sw ow i _
  rwa [List.length_range] at this
theorem WaysL.at2 {ex : List (Addr × Obj)} {vs : List Value} {ws : List Way} (h : WaysL ex vs ws) : ∀ {i : Nat}, i < ws.length → ∃ t u a b n w us m, vs[i]? = some (.ref t) ∧ ws[i]? = some (w, a, b) ∧ (t, tupOf #[.ref u, .ref a, .bool b] n) ∈ ex ∧ (u, tupOf us.toArray m) ∈ ex ∧ StrV us w := by
  induction h with
  | nil => intro i h; simp at h
  | cons h1 h2 h3 _ ih =>
    intro i hi
    cases i with
    | zero => exact ⟨_, _, _, _, _, _, _, _, rfl, rfl, h1, h2, h3⟩
    | succ i => simpa using ih (i := i) (by simpa using hi)
theorem nodes_ok : ∀ {g : G}, g.UsOk → ∀ q ∈ g.nodes, q.2.1.Ok ∧ q.2.2.UsOk
  | .nil, _, q, hq => nomatch hq
  | .cons x n k r, h, q, hq => by
    rcases List.mem_cons.mp hq with e | e
    · rw [e]; exact ⟨h.1.2, h.2.1⟩
    · exact nodes_ok h.2.2 q e
theorem ways_ok : ∀ (d : Nat) (g : G) (w : List Str), g.Bd d → g.UsOk → (∀ x ∈ w, PyData.strOk x = true) → ∀ q ∈ g.ways w, ∀ x ∈ q.1, PyData.strOk x = true
  | 0, .nil, _, _, _, _, q, hq, _, _ => nomatch hq
  | 0, .cons _ _ _ _, _, h, _, _, _, _, _, _ => h.elim
  | d + 1, g, w, hb, hu, hw, q, hq, x, hx => by
    rw [ways_eq] at hq
    obtain ⟨p, hp, hq⟩ := List.mem_flatMap.mp hq
    have h1 := nodes_ok hu p hp
    have h2 := nodes_bd hb p hp
    have hw' : ∀ x ∈ w ++ [p.2.1.nm], PyData.strOk x = true := fun x hx => by
      rcases List.mem_append.mp hx with h | h
      · exact hw x h
      · rw [List.mem_singleton.mp h]; exact h1.1.1
    unfold wayCell at hq
    split at hq
    · rcases List.mem_cons.mp hq with e | e
      · rw [e] at hx; exact hw' x hx
      · exact ways_ok d p.2.2 _ h2.2 h1.2 hw' q e x hx
    · cases hq
theorem eq_ways {prog : Program} {w' : World} {A : Around} {s : Shared} {E : Value → Shared → Prop} {Q : Value → Shared → Prop} {a b : Addr} {us vs : List Value} {n m : Nat} {v w : List Str} (ha : s.heap.get? a = some (tupOf us.toArray n)) (hb : s.heap.get? b = some (tupOf vs.toArray m)) (ra : StrV us v) (rb : StrV vs w) (oa : ∀ x ∈ v, PyData.strOk x = true) (ob : ∀ x ∈ w, PyData.strOk x = true) (hu : A.units < 1000)
    (h : Q (.bool (decide (v = w))) s) : wpAny (model prog w') A (compareOp .Eq (.ref a) (.ref b)) Q E s := by
  refine eq_dataH (reads_tuple_at ha rfl rfl (strV_reads ra)) (reads_tuple_at hb rfl rfl (strV_reads rb)) (shaped_strs oa) (shaped_strs ob) (by show A.units + 64 < 9900; exact ar439 hu) ?_
  rw [show PyData.eqv (.tuple (v.map PyData.str)) (.tuple (w.map PyData.str)) = decide (v = w) by simp only [PyData.eqv]; exact eqvAll_strs v w]
  exact h
end
section
-- P2
open PySem.Spec
-- flatMaps and permutations
theorem fm_append {α β : Type} (f g : α → List β) : ∀ l : List α, (l.flatMap fun x => f x ++ g x).Perm (l.flatMap f ++ l.flatMap g)
  | [] => .refl _
  | a :: l => by
    rw [List.flatMap_cons, List.flatMap_cons, List.flatMap_cons]
    have h := fm_append f g l
    refine ((h.append_left (f a ++ g a))).trans ?_
    rw [List.append_assoc, List.append_assoc]
    refine List.Perm.append_left (f a) ?_
    rw [← List.append_assoc, ← List.append_assoc]
    exact List.Perm.append_right _ List.perm_append_comm
theorem fm_congr {α β : Type} {f g : α → List β} : ∀ {l : List α}, (∀ x ∈ l, (f x).Perm (g x)) → (l.flatMap f).Perm (l.flatMap g)
  | [], _ => .refl _
  | a :: l, h => by
    rw [List.flatMap_cons, List.flatMap_cons]
    exact (h a (.head _)).append (fm_congr fun x hx => h x (.tail _ hx))
theorem fm_nil {α β : Type} {f : α → List β} : ∀ {l : List α}, (∀ x ∈ l, f x = []) → l.flatMap f = []
  | [], _ => rfl
  | a :: l, h => by rw [List.flatMap_cons, h a (.head _), fm_nil fun x hx => h x (.tail _ hx)]; rfl
theorem fm_eq {α β : Type} {f g : α → List β} : ∀ {l : List α}, (∀ x ∈ l, f x = g x) → l.flatMap f = l.flatMap g
  | [], _ => rfl
  | a :: l, h => by rw [List.flatMap_cons, List.flatMap_cons, h a (.head _), fm_eq fun x hx => h x (.tail _ hx)]
theorem fm_swap {α β γ : Type} (c : α → β → List γ) : ∀ (l : List α) (k : List β), (l.flatMap fun p => k.flatMap fun q => c p q).Perm (k.flatMap fun q => l.flatMap fun p => c p q)
  | [], k => by
    have e : (k.flatMap fun q => ([] : List α).flatMap fun p => c p q) = [] := fm_nil fun _ _ => rfl
    rw [e]; exact .refl _
  | a :: l, k => by
    rw [List.flatMap_cons]
    refine ((fm_swap c l k).append_left _).trans ?_
    refine (fm_append (fun q => c a q) (fun q => l.flatMap fun p => c p q) k).symm.trans ?_
    exact fm_congr fun q _ => by rw [List.flatMap_cons]
theorem fm_map {α β γ : Type} (f : α → List β) (g : β → γ) : ∀ l : List α, (l.flatMap f).map g = l.flatMap fun x => (f x).map g
  | [] => rfl
  | a :: l => by rw [List.flatMap_cons, List.flatMap_cons, List.map_append, fm_map f g l]
theorem fm_fm {α β γ : Type} (f : α → List β) (g : β → List γ) : ∀ l : List α, (l.flatMap f).flatMap g = l.flatMap fun x => (f x).flatMap g
  | [] => rfl
  | a :: l => by rw [List.flatMap_cons, List.flatMap_cons, List.flatMap_append, fm_fm f g l]

-- what is due of two lists of ways, by the nodes
noncomputable def dueC (p q : Way) : List (Addr × Addr) := if p.1 = q.1 ∧ ¬(p.2.2 = true ∧ q.2.2 = true) then [(p.2.1, q.2.1)] else []
noncomputable def dueW (sw ow : List Way) : List (Addr × Addr) := sw.flatMap fun p => ow.flatMap fun q => dueC p q
noncomputable def wayHd (w : List Str) (p : Pt) : List Way := (w ++ [p.2.1.nm], p.1, p.2.2.group) :: p.2.2.ways (w ++ [p.2.1.nm])
theorem ways_named (w : List Str) (g : G) : g.ways w = g.named.flatMap (wayHd w) := by
  rw [ways_eq]
  show g.nodes.flatMap (wayCell w) = (g.nodes.filter fun q => q.2.1.can).flatMap (wayHd w)
  generalize g.nodes = l
  induction l with
  | nil => rfl
  | cons a l ih =>
    rw [List.flatMap_cons, List.filter_cons, ih]
    by_cases h : a.2.1.can = true
    · rw [if_pos h, List.flatMap_cons]
      show (if a.2.1.can = true then _ else _) ++ _ = _
      rw [if_pos h]; rfl
    · rw [if_neg h]
      show (if a.2.1.can = true then _ else _) ++ _ = _
      rw [if_neg h]; rfl
theorem ways_pre : ∀ (d : Nat) {g : G} {w : List Str}, g.Bd d → ∀ q ∈ g.ways w, ∃ r, r ≠ [] ∧ q.1 = w ++ r
  | 0, .nil, _, _, q, hq => nomatch hq
  | 0, .cons _ _ _ _, _, h, _, _ => h.elim
  | d + 1, g, w, hb, q, hq => by
    rw [ways_named] at hq
    obtain ⟨p, hp, hq⟩ := List.mem_flatMap.mp hq
    rcases List.mem_cons.mp hq with e | e
    · exact ⟨[p.2.1.nm], by simp, by rw [e]⟩
    · obtain ⟨r, _, h⟩ := ways_pre d (nodes_bd hb p (named_sub hp)).2 q e
      exact ⟨p.2.1.nm :: r, by simp, by rw [h]; simp⟩
theorem nogroup_named : ∀ {g : G}, g.group = false → g.named = []
  | .nil, _ => rfl
  | .cons x n k r, h => by
    unfold G.group at h
    by_cases e : n.lvl = 66
    · rw [if_pos e] at h
      have hc : n.can = false := by unfold Nd.can; simp [e]
      have ih := nogroup_named h
      unfold G.named at ih ⊢
      simp only [G.nodes, List.filter_cons, hc]
      exact ih
    · rw [if_neg e] at h; cases h
theorem nogroup_ways {g : G} (h : g.group = false) (w : List Str) : g.ways w = [] := by
  rw [ways_named, nogroup_named h]; rfl

/-- the heart: what pairs_alike tells is what is due -/
theorem alike_due : ∀ (d : Nat) (a b : G) (w : List Str), a.Bd d → b.Bd d → (alike d a b).Perm (dueW (a.ways w) (b.ways w))
  | 0, .nil, b, w, _, _ => .refl _
  | 0, .cons _ _ _ _, _, _, h, _ => h.elim
  | d + 1, a, b, w, ha, hb => by
    rw [alike_eq ha, ways_named w a, ways_named w b]
    unfold dueW
    rw [fm_fm]
    refine fm_congr fun p hp => ?_
    have hpb := nodes_bd ha p (named_sub hp)
    have e1 : ((wayHd w p).flatMap fun p' => (b.named.flatMap (wayHd w)).flatMap fun q' => dueC p' q') = ((wayHd w p).flatMap fun p' => b.named.flatMap fun q => (wayHd w q).flatMap fun q' => dueC p' q') := fm_eq fun p' _ => fm_fm _ _ _
    rw [e1]
    refine List.Perm.trans ?_ (fm_swap (fun p' q => (wayHd w q).flatMap fun q' => dueC p' q') _ _).symm
    refine fm_congr fun q hq => ?_
    have hqb := nodes_bd hb q (named_sub hq)
    have ih := alike_due d p.2.2 q.2.2 (w ++ [p.2.1.nm]) hpb.2 hqb.2
    unfold cell
    by_cases hn : q.2.1.nm ≠ p.2.1.nm
    · rw [if_pos hn]
      have e2 : ((wayHd w p).flatMap fun p' => (wayHd w q).flatMap fun q' => dueC p' q') = [] := by
        have pre : ∀ z : Pt, z.2.2.Bd d → ∀ z' ∈ wayHd w z, ∃ r, z'.1 = w ++ z.2.1.nm :: r := fun z hz z' hz' => by
          rcases List.mem_cons.mp hz' with e | e
          · exact ⟨[], by rw [e]⟩
          · obtain ⟨r, _, h⟩ := ways_pre d hz z' e
            exact ⟨r, by rw [h]; simp⟩
        refine fm_nil fun p' hp' => fm_nil fun q' hq' => ?_
        obtain ⟨r1, h1⟩ := pre p hpb.2 p' hp'
        obtain ⟨r2, h2⟩ := pre q hqb.2 q' hq'
        unfold dueC
        rw [if_neg]
        rintro ⟨e, _⟩
        rw [h1, h2] at e
        have := List.append_cancel_left e
        exact hn (List.cons.inj this).1.symm
      rw [e2]
    · have hn' : q.2.1.nm = p.2.1.nm := Decidable.not_not.mp hn
      rw [if_neg hn]
      have hd1 : ∀ q' ∈ q.2.2.ways (w ++ [q.2.1.nm]), dueC (w ++ [p.2.1.nm], p.1, p.2.2.group) q' = [] := fun q' hq' => by
        obtain ⟨r, hr, h⟩ := ways_pre d hqb.2 q' hq'
        unfold dueC
        rw [if_neg]
        rintro ⟨e, _⟩
        rw [h, hn'] at e
        exact hr (List.self_eq_append_right.mp e)
      have hd2 : ∀ p' ∈ p.2.2.ways (w ++ [p.2.1.nm]), dueC p' (w ++ [q.2.1.nm], q.1, q.2.2.group) = [] := fun p' hp' => by
        obtain ⟨r, hr, h⟩ := ways_pre d hpb.2 p' hp'
        unfold dueC
        rw [if_neg]
        rintro ⟨e, _⟩
        have e' : p'.1 = w ++ [q.2.1.nm] := e
        rw [h, hn'] at e'
        exact hr (List.self_eq_append_right.mp e'.symm)
      have e3 : ((wayHd w p).flatMap fun p' => (wayHd w q).flatMap fun q' => dueC p' q') = dueC (w ++ [p.2.1.nm], p.1, p.2.2.group) (w ++ [q.2.1.nm], q.1, q.2.2.group) ++ dueW (p.2.2.ways (w ++ [p.2.1.nm])) (q.2.2.ways (w ++ [q.2.1.nm])) := by
        unfold wayHd
        rw [List.flatMap_cons, List.flatMap_cons, fm_nil hd1, List.append_nil]
        congr 1
        unfold dueW
        refine fm_eq fun p' hp' => ?_
        rw [List.flatMap_cons, hd2 p' hp', List.nil_append]
      rw [e3, hn']
      rw [hn'] at *
      by_cases hg : p.2.2.group = true ∧ q.2.2.group = true
      · rw [if_pos hg]
        have e4 : dueC (w ++ [p.2.1.nm], p.1, p.2.2.group) (w ++ [p.2.1.nm], q.1, q.2.2.group) = [] := by
          unfold dueC; rw [if_neg]; rintro ⟨_, h⟩; exact h hg
        rw [e4, List.nil_append]
        exact ih
      · rw [if_neg hg]
        have e4 : dueC (w ++ [p.2.1.nm], p.1, p.2.2.group) (w ++ [p.2.1.nm], q.1, q.2.2.group) = [(p.1, q.1)] := by
          unfold dueC; rw [if_pos ⟨rfl, hg⟩]
        have e5 : dueW (p.2.2.ways (w ++ [p.2.1.nm])) (q.2.2.ways (w ++ [p.2.1.nm])) = [] := by
          cases h1 : p.2.2.group with
          | false => rw [nogroup_ways h1]; rfl
          | true =>
            cases h2 : q.2.2.group with
            | false => rw [nogroup_ways h2]; exact fm_nil fun _ _ => rfl
            | true => exact absurd ⟨h1, h2⟩ hg
        rw [e4, e5]; exact .refl _
/-- the other way about -/
theorem dueW_turn (sw ow : List Way) : ((dueW ow sw).map fun q => (q.2, q.1)).Perm (dueW sw ow) := by
  unfold dueW
  rw [fm_map]
  have e : (ow.flatMap fun q => (sw.flatMap fun p => dueC q p).map fun z => (z.2, z.1)) = ow.flatMap fun q => sw.flatMap fun p => dueC p q := by
    refine fm_eq fun q _ => ?_
    rw [fm_map]
    refine fm_eq fun p _ => ?_
    unfold dueC
    by_cases h : p.1 = q.1 ∧ ¬(p.2.2 = true ∧ q.2.2 = true)
    · rw [if_pos h, if_pos ⟨h.1.symm, fun k => h.2 ⟨k.2, k.1⟩⟩]; rfl
    · rw [if_neg h, if_neg fun k => h ⟨k.1.symm, fun j => k.2 ⟨j.2, j.1⟩⟩]; rfl
  rw [e]
  exact fm_swap _ _ _
end
section
-- P3
open PySem.Spec
theorem ways_addr : ∀ (g : G) (w : List Str), ((g.ways w).map (·.2.1)).Sublist g.addrs
  | .nil, _ => .refl _
  | .cons x n k r, w => by
    show ((((if n.can = true then (w ++ [n.nm], x, k.group) :: k.ways (w ++ [n.nm]) else []) ++ r.ways w)).map (·.2.1)).Sublist (x :: (k.addrs ++ r.addrs))
    rw [List.map_append]
    by_cases h : n.can = true
    · rw [if_pos h, List.map_cons, List.cons_append]
      exact .cons_cons _ ((ways_addr k _).append (ways_addr r _))
    · rw [if_neg h]
      exact .cons _ ((List.nil_sublist _).append (ways_addr r _))
theorem range_one {P : Nat → Bool} {i : Nat} : ∀ {n : Nat}, i < n → P i = true → (∀ j, j < n → P j = true → j = i) → (List.range n).filter P = [i]
  | 0, h, _, _ => absurd h (Nat.not_lt_zero _)
  | n + 1, h, hp, hu => by
    rw [List.range_succ, List.filter_append]
    by_cases e : i = n
    · subst e
      have e1 : (List.range i).filter P = [] := List.filter_eq_nil_iff.mpr fun j hj hP => by
        have h1 := List.mem_range.mp hj
        have h2 := hu j (Nat.lt_succ_of_lt h1) hP
        exact ar330 h1 h2
      rw [e1]; simp [hp]
    · have e1 : P n = false := by
        cases hn : P n with
        | false => rfl
        | true => exact absurd (hu n (Nat.lt_succ_self _) hn).symm e
      rw [range_one (by exact ar440 h e) hp fun j hj hP => hu j (Nat.lt_succ_of_lt hj) hP]
      simp [e1]
theorem nodup_at {α : Type} {l : List α} (h : l.Nodup) {i j : Nat} {a : α} (hi : l[i]? = some a) (hj : l[j]? = some a) : i = j := by
  obtain ⟨h1, e1⟩ := List.getElem?_eq_some_iff.mp hi
  obtain ⟨h2, e2⟩ := List.getElem?_eq_some_iff.mp hj
  rcases Nat.lt_trichotomy i j with q | q | q
  · exact absurd (e1.trans e2.symm) (List.pairwise_iff_getElem.mp h i j h1 h2 q)
  · exact q
  · exact absurd (e2.trans e1.symm) (List.pairwise_iff_getElem.mp h j i h2 h1 q)
theorem placeOf_at {ws : List Way} (h : (ws.map (·.2.1)).Nodup) {i : Nat} {p : Way} (hi : ws[i]? = some p) : placeOf ws p.2.1 = [i] := by
  have hl := (List.getElem?_eq_some_iff.mp hi).1
  refine range_one hl (by rw [hi]; simp) fun j hj hP => ?_
  have hP := of_decide_eq_true hP
  refine nodup_at h (a := p.2.1) (by rw [List.getElem?_map]; exact hP) (by rw [List.getElem?_map, hi]; rfl)
theorem fm_index {α β : Type} (f : α → List β) : ∀ l : List α, l.flatMap f = (List.range l.length).flatMap fun i => (l[i]?.toList).flatMap f
  | [] => rfl
  | a :: l => by
    rw [List.flatMap_cons, fm_index f l, List.length_cons, List.range_succ_eq_map, List.flatMap_cons, List.flatMap_map]
    simp
theorem filter_fm {α β : Type} (p : α → Bool) (f : α → β) : ∀ l : List α, (l.filter p).map f = l.flatMap fun x => if p x = true then [f x] else []
  | [] => rfl
  | a :: l => by
    rw [List.flatMap_cons, List.filter_cons, ← filter_fm p f l]
    by_cases h : p a = true
    · rw [if_pos h, if_pos h]; rfl
    · rw [if_neg h, if_neg h]; rfl
theorem dueW_places {sw ow : List Way} (h1 : (sw.map (·.2.1)).Nodup) (h2 : (ow.map (·.2.1)).Nodup) : ((dueW sw ow).map fun q => (placeOf sw q.1, placeOf ow q.2)) = (dueL sw ow sw.length).map sg := by
  unfold dueW dueL
  rw [fm_map, fm_map, fm_index]
  refine fm_eq fun i hi => ?_
  have hi := List.mem_range.mp hi
  have ei := List.getElem?_eq_getElem hi
  rw [ei]
  show ([sw[i]].flatMap _) = _
  rw [List.flatMap_singleton, fm_map, fm_index]
  unfold dueAt
  rw [List.map_map, filter_fm]
  refine fm_eq fun j hj => ?_
  have hj := List.mem_range.mp hj
  have ej := List.getElem?_eq_getElem hj
  rw [ej]
  show ([ow[j]].flatMap _) = _
  rw [List.flatMap_singleton]
  unfold dueC dueB
  rw [ei, ej]
  dsimp only
  by_cases h : sw[i].1 = ow[j].1 ∧ ¬(sw[i].2.2 = true ∧ ow[j].2.2 = true)
  · rw [if_pos h, if_pos (by
      have := h.2
      simp only [h.1, decide_true, Bool.true_and]
      revert this
      cases sw[i].2.2 <;> cases ow[j].2.2 <;> simp)]
    show [(placeOf sw sw[i].2.1, placeOf ow ow[j].2.1)] = [sg (i, j)]
    rw [placeOf_at h1 ei, placeOf_at h2 ej]; rfl
  · rw [if_neg h, if_neg (by
      intro k
      rw [Bool.and_eq_true] at k
      refine h ⟨of_decide_eq_true k.1, fun z => ?_⟩
      rw [z.1, z.2] at k
      exact absurd k.2 (by decide))]
    rfl
theorem dueL_sorted (sw ow : List Way) (m : Nat) : (dueL sw ow m).Pairwise lexLt := by
  unfold dueL
  rw [List.pairwise_flatMap]
  constructor
  · intro i _
    unfold dueAt
    rw [List.pairwise_map]
    refine (List.Pairwise.filter _ (List.pairwise_lt_range)).imp ?_
    intro a b h
    exact .inr ⟨rfl, h⟩
  · refine (List.pairwise_lt_range).imp ?_
    intro a b h x hx y hy
    obtain ⟨_, _, rfl⟩ := List.mem_map.mp hx
    obtain ⟨_, _, rfl⟩ := List.mem_map.mp hy
    exact .inl h
theorem dueL_small {sw ow : List Way} {m : Nat} (h1 : m < 1000) (h2 : ow.length < 1000) : ∀ q ∈ dueL sw ow m, Small q := by
  intro q hq
  obtain ⟨i, hi, hq⟩ := List.mem_flatMap.mp hq
  obtain ⟨j, hj, rfl⟩ := List.mem_map.mp hq
  have := List.mem_range.mp hi
  have := List.mem_range.mp (List.mem_filter.mp hj).1
  exact ⟨by show i < 1000; omega, by show j < 1000; exact ar441 h2 this⟩
theorem lexLt_irrefl (a : Nat × Nat) : ¬lexLt a a := by unfold lexLt; exact ar442
theorem lexLt_asymm {a b : Nat × Nat} (h : lexLt a b) (k : lexLt b a) : False := by unfold lexLt at *; exact ar443 k h
theorem lex_nodup {l : List (Nat × Nat)} (h : l.Pairwise lexLt) : l.Nodup := h.imp fun k e => by subst e; exact lexLt_irrefl _ k
theorem perm_sorted : ∀ {l k : List (Nat × Nat)}, l.Perm k → l.Pairwise lexLt → k.Pairwise lexLt → l = k
  | [], k, h, _, _ => h.nil_eq
  | a :: l, [], h, _, _ => absurd h.length_eq (by simp)
  | a :: l, b :: k, h, h1, h2 => by
    rw [List.pairwise_cons] at h1 h2
    have e : a = b := by
      rcases List.mem_cons.mp (h.mem_iff.mp (.head _)) with e | ha
      · exact e
      · rcases List.mem_cons.mp (h.mem_iff.mpr (.head _)) with e | hb
        · exact e.symm
        · exact (lexLt_asymm (h1.1 b hb) (h2.1 a ha)).elim
    subst e
    rw [perm_sorted (List.Perm.cons_inv h) h1.2 h2.2]
/-- what the places of these pairs are -/
theorem places_due {sw ow : List Way} (h1 : (sw.map (·.2.1)).Nodup) (h2 : (ow.map (·.2.1)).Nodup) (l1 : sw.length ≤ 14) (l2 : ow.length ≤ 14) {ps : List (Addr × Addr)} (hp : ps.Perm (dueW sw ow)) (hl : ps.length ≤ 64) :
    ∃ qs, (ps.map fun q => (placeOf sw q.1, placeOf ow q.2)) = qs.map sg ∧ (dueL sw ow sw.length).Perm qs ∧ qs.Nodup ∧ (∀ q ∈ qs, Small q) ∧ qs.length ≤ 64 := by
  have h := hp.map fun q => (placeOf sw q.1, placeOf ow q.2)
  rw [dueW_places h1 h2] at h
  obtain ⟨qs, a, b⟩ := sg_perm h.symm
  refine ⟨qs, b, a, a.nodup (lex_nodup (dueL_sorted _ _ _)), fun q hq => dueL_small (by exact ar290 l1) (by exact ar290 l2) q (a.mem_iff.mpr hq), ?_⟩
  have := congrArg List.length b
  rw [List.length_map, List.length_map] at this
  exact ar444 this hl
theorem sortedP_due {ex : List (Addr × Obj)} {D qs : List (Nat × Nat)} {out : List Value} (hD : D.Pairwise lexLt) (hp : D.Perm qs) (h : SortedP ex qs out) : PlaceL ex out (D.map sg) := by
  obtain ⟨l, a, b, c⟩ := h
  rw [perm_sorted (hp.trans a) hD b]
  exact c
/-- the addresses of ways and pairs are items -/
theorem kidsR_item {has : Addr → Obj → Prop} {P : Params} : ∀ {g : G} {par : Value}, KidsR has P par g → ∀ a ∈ g.addrs, ∃ d, has a (instObj 88 d)
  | .cons x n k r, par, h, a, ha => by
    have ha' : a ∈ x :: (k.addrs ++ r.addrs) := ha
    rcases List.mem_cons.mp ha' with rfl | ha'
    · obtain ⟨dx, kl, cl, tk, occ, en, kn, cn, h1, _⟩ := h.1
      exact ⟨_, h1⟩
    · rcases List.mem_append.mp ha' with ha' | ha'
      · exact kidsR_item h.2.1 a ha'
      · exact kidsR_item h.2.2 a ha'
theorem ways_item {hB : Heap} {P : Params} {g : G} {par : Value} (h : KidsR (fun a o => hB.get? a = some o) P par g) (w : List Str) : ∀ q ∈ g.ways w, IsItem hB q.2.1 := fun q hq =>
  kidsR_item h _ ((ways_addr g w).subset (List.mem_map_of_mem hq))
theorem dueW_item {sw ow : List Way} {hB : Heap} (h1 : ∀ q ∈ sw, IsItem hB q.2.1) (h2 : ∀ q ∈ ow, IsItem hB q.2.1) : ∀ q ∈ dueW sw ow, IsItem hB q.1 ∧ IsItem hB q.2 := by
  intro q hq
  obtain ⟨p, hp, hq⟩ := List.mem_flatMap.mp hq
  obtain ⟨r, hr, hq⟩ := List.mem_flatMap.mp hq
  unfold dueC at hq
  split at hq
  · rw [List.mem_singleton.mp hq]; exact ⟨h1 p hp, h2 r hr⟩
  · cases hq
end
section
-- L1b
open PySem.Spec
/-- an address beside the trees and the table -/
noncomputable def Off0 (hT : Heap) (a : Addr) : Prop := a ≠ 113 ∧ hT.get? a = none
/-- the due loops' state -/
inductive DueJ (hT : Heap) (pre : List (Addr × Obj)) (av : Option Value) (oa sa bf x1 x2 D : Addr) (svs ovs : List Value) (on sn : Nat) (r1 r2 : Value) (tB tl : List (Addr × Obj)) (m0 : Str → Option Value) (ds : List (Nat × Nat)) (m : Str → Option Value) (news : List (Addr × Obj)) : Prop
  | mk : ∀ dvs dn ex, (news = pre ++ (D, listOf dvs.toArray dn) :: (oa, listOf ovs.toArray on) :: (sa, listOf svs.toArray sn) :: (bf, tupOf #[r1, r2] 0) :: (113, tabObj #[]) :: (ex ++ (tB ++ tl))) → (PlaceL ex dvs (ds.map sg)) → ((∀ q ∈ ex, q.1 ≠ D ∧ Off0 hT q.1 ∧ ∀ p ∈ pre, q.1 ≠ p.1)) → ∀ sv : Option Value, (∀ z, m z = if z = Str.ofString "spot" then sv else if z = Str.ofString "at" then av else if z = Str.ofString "due" then some (.ref D) else if z = Str.ofString "some" then some (.ref sa) else if z = Str.ofString "others" then some (.ref oa) else if z = Str.ofString "before" then some (.ref bf) else if z = Str.ofString "one" then some (.ref x1) else if z = Str.ofString "other" then some (.ref x2) else m0 z) → DueJ hT pre av oa sa bf x1 x2 D svs ovs on sn r1 r2 tB tl m0 ds m news
theorem due_app {prog : Program} {w : World} {A : Around} {s : Shared} {E : Value → Shared → Prop} {Q : Value → Shared → Prop} {h₀ : Heap} {L : Addr} {m : Str → Option Value} {D TA P1 P2 J2 J1 : Addr} {o2 o1 oT op2 op1 : Obj} {dvs : List Value} {dn : Nat} {rest : List (Addr × Obj)}
    (F : Fr h₀ L s.heap m) (N : News h₀ L s.heap ((TA, oT) :: (P2, op2) :: (P1, op1) :: (J2, o2) :: (J1, o1) :: (D, listOf dvs.toArray dn) :: rest))
    (off : ∀ q ∈ (TA, oT) :: (P2, op2) :: (P1, op1) :: (J2, o2) :: (J1, o1) :: rest, q.1 ≠ D) (hz : dvs.length < 10000)
    (k : ∀ h', Fr h₀ L h' m → News h₀ L h' ((D, listOf (dvs ++ [Value.ref TA]).toArray (dn + 1)) :: (TA, oT) :: (P2, op2) :: (P1, op1) :: (J2, o2) :: (J1, o1) :: rest) → Q .none { s with heap := h' }) :
    wpAny (model prog w) A (call (.builtin "list.append") [.ref D, .ref TA]) Q E s := by
  refine append_K (its := dvs.toArray) (n := dn) (x := .ref TA) F (News.sub N (l' := (D, listOf dvs.toArray dn) :: (TA, oT) :: (P2, op2) :: (P1, op1) :: (J2, o2) :: (J1, o1) :: rest) fun q hq => ?_) (Upd.head off) (fun h' F' N' => ?_) (by rw [List.size_toArray, sizeLine_eq]; exact ar294 hz)
  · exact (by walk_at "mine subs" : ∀ z ∈ _, z ∈ _) q hq
  · have ea : dvs.toArray.push (.ref TA) = (dvs ++ [Value.ref TA]).toArray := by simp
    rw [ea] at N'
    exact k h' F' N'
theorem place_snoc {ex : List (Addr × Obj)} {dvs : List Value} {ds : List (Nat × Nat)} {TA P1 P2 : Addr} {i j : Nat} {t1 t2 : Tok} {n m1 m2 : Nat} (h : PlaceL ex dvs (ds.map sg)) :
    PlaceL ((TA, tupOf #[.ref P1, .ref P2] n) :: (P2, listOf #[.int (0 + (j : Int)) t2] m2) :: (P1, listOf #[.int (0 + (i : Int)) t1] m1) :: ex) (dvs ++ [Value.ref TA]) ((ds ++ [(i, j)]).map sg) := by
  rw [List.map_append]
  refine (h.mono fun q h => .tail _ (.tail _ (.tail _ h))).append ?_
  rw [Int.zero_add, Int.zero_add]
  exact .cons (us := [.int (i : Int) t1]) (ws := [.int (j : Int) t2]) (.head _) (.tail _ (.tail _ (.head _))) (.cons .nil) (.tail _ (.head _)) (.cons .nil) .nil
theorem places_reads {h : Heap} {a : Addr} {e : List (Addr × Obj)} {o : List Value} {n : Nat} {ds : List (Nat × Nat)} (h1 : h.get? a = some (listOf o.toArray n)) (p1 : PlaceL e o (ds.map sg)) (u1 : ∀ q ∈ e, h.get? q.1 = some q.2) : ∃ as, Reads h (.ref a) (.list (ds.map placeD)) as :=
  reads_list_of h1 (placeL_reads p1 u1)
theorem places_self (ds : List (Nat × Nat)) : PyData.eqv (.list (ds.map placeD)) (.list (ds.map placeD)) = true :=
  SeqAt.eqv_refl _ (Bool.and_eq_true_iff.mp (shaped_places ds)).1
theorem ne_places {prog : Program} {w : World} {A : Around} {s : Shared} {E : Value → Shared → Prop} {Q : Value → Shared → Prop} {a b : Addr} {e1 e2 : List (Addr × Obj)} {o1 o2 : List Value} {n1 n2 : Nat} {ds : List (Nat × Nat)} (h1 : s.heap.get? a = some (listOf o1.toArray n1)) (h2 : s.heap.get? b = some (listOf o2.toArray n2)) (p1 : PlaceL e1 o1 (ds.map sg)) (u1 : ∀ q ∈ e1, s.heap.get? q.1 = some q.2) (p2 : PlaceL e2 o2 (ds.map sg)) (u2 : ∀ q ∈ e2, s.heap.get? q.1 = some q.2) (hu : A.units < 1000)
    (h : Q (.bool false) s) : wpAny (model prog w) A (compareOp .NotEq (.ref a) (.ref b)) Q E s := by
  obtain ⟨as, ra⟩ := places_reads h1 p1 u1
  obtain ⟨bs, rb⟩ := places_reads h2 p2 u2
  refine ne_dataH ra rb (shaped_places ds) (shaped_places ds) (by show A.units + 64 < 9900; exact ar439 hu) ?_
  rw [places_self]; exact h
theorem eq_places {prog : Program} {w : World} {A : Around} {s : Shared} {E : Value → Shared → Prop} {Q : Value → Shared → Prop} {a b : Addr} {e1 e2 : List (Addr × Obj)} {o1 o2 : List Value} {n1 n2 : Nat} {ds : List (Nat × Nat)} (h1 : s.heap.get? a = some (listOf o1.toArray n1)) (h2 : s.heap.get? b = some (listOf o2.toArray n2)) (p1 : PlaceL e1 o1 (ds.map sg)) (u1 : ∀ q ∈ e1, s.heap.get? q.1 = some q.2) (p2 : PlaceL e2 o2 (ds.map sg)) (u2 : ∀ q ∈ e2, s.heap.get? q.1 = some q.2) (hu : A.units < 1000)
    (h : Q (.bool true) s) : wpAny (model prog w) A (compareOp .Eq (.ref a) (.ref b)) Q E s := by
  obtain ⟨as, ra⟩ := places_reads h1 p1 u1
  obtain ⟨bs, rb⟩ := places_reads h2 p2 u2
  refine eq_dataH ra rb (shaped_places ds) (shaped_places ds) (by show A.units + 64 < 9900; exact ar439 hu) ?_
  rw [places_self]; exact h
theorem shaped_told {x1 x2 : Addr} {n1 n2 : Nd} {k1 k2 : G} {D1 D2 : PyData} (h1 : (toldD (.cons x1 n1 k1 .nil))[0]? = some D1) (h2 : (toldD (.cons x2 n2 k2 .nil))[0]? = some D2) (u1 : (G.cons x1 n1 k1 .nil).UsOk) (u2 : (G.cons x2 n2 k2 .nil).UsOk) (b1 : (G.cons x1 n1 k1 .nil).Bd 4) (b2 : (G.cons x2 n2 k2 .nil).Bd 4) : SeqAt.shaped (.tuple [D1, D2]) = true := by
  have e1 : toldD (.cons x1 n1 k1 .nil) = [D1] := by
    simp only [toldD, List.getElem?_cons_zero, Option.some.injEq] at h1 ⊢
    rw [h1]
  have e2 : toldD (.cons x2 n2 k2 .nil) = [D2] := by
    simp only [toldD, List.getElem?_cons_zero, Option.some.injEq] at h2 ⊢
    rw [h2]
  have a1 := toldD_ok _ 4 u1 b1
  have a2 := toldD_ok _ 4 u2 b2
  rw [e1] at a1
  rw [e2] at a2
  obtain ⟨c1, d1⟩ := a1
  obtain ⟨c2, d2⟩ := a2
  simp only [PyData.canLayAll0, Bool.and_true] at c1 c2
  simp only [PyData.depthAll] at d1 d2
  refine Bool.and_eq_true_iff.mpr ⟨?_, decide_eq_true ?_⟩
  · simp only [PyData.canLay0, PyData.canLayAll0, c1, c2, Bool.and_true]
  · simp only [PyData.depth, PyData.depthAll]; exact ar445 d2 d1
theorem eq_told {prog : Program} {w : World} {A : Around} {s : Shared} {E : Value → Shared → Prop} {Q : Value → Shared → Prop} {a b : Addr} {r1 r2 t1 t2 : Value} {n1 n2 : Nat} {D1 D2 : PyData} (h1 : s.heap.get? a = some (tupOf #[r1, r2] n1)) (h2 : s.heap.get? b = some (tupOf #[t1, t2] n2)) (d1 : Reads s.heap r1 D1 []) (d2 : Reads s.heap r2 D2 []) (c1 : Reads s.heap t1 D1 []) (c2 : Reads s.heap t2 D2 []) (hs : SeqAt.shaped (.tuple [D1, D2]) = true) (hu : A.units < 1000)
    (h : Q (.bool true) s) : wpAny (model prog w) A (compareOp .Eq (.ref a) (.ref b)) Q E s := by
  refine eq_dataH (reads_tuple_at h1 rfl rfl (readsAll_cons0 d1 (readsAll_cons0 d2 .nil))) (reads_tuple_at h2 rfl rfl (readsAll_cons0 c1 (readsAll_cons0 c2 .nil))) hs hs (by show A.units + 64 < 9900; exact ar439 hu) ?_
  rw [SeqAt.eqv_refl _ (Bool.and_eq_true_iff.mp hs).1]; exact h
/-- the comprehension that turns the pairs about -/
theorem turned_rest {prog : Program} {w : World} {A : Around} {s : Shared} {h₀ : Heap} {L : Addr} {m : Str → Option Value} {env : Env} {elt : Expr} {x x₂ : Str} {scope : Scope} {cl : List (Str × Addr)} {Fin : List Value → List (Addr × Obj) → Prop} {hT : Heap} {pb : Addr} {pvs : List Value} {ps : List (Addr × Addr)} {news0 : List (Addr × Obj)}
    (hps : PairsL news0 pvs ps) (hsrc : ∃ k, (pb, listOf pvs.toArray k) ∈ news0) (no : ∀ T, h₀.get? T = none → (∀ q ∈ news0, q.1 ≠ T) → hT.get? T = none)
    (hel : ∀ (I : Addr) (oI : Obj) (C : Addr) (oC : Obj) (m₂ : Str → Option Value) (h : Heap) (tk : Nat) (E' : Value → Shared → Prop) (Q : Value → Shared → Prop) (led : List (Addr × Obj)) (v₁ v₂ : Value), LCg.NsObj oC m₂ → m₂ x = some v₁ → m₂ x₂ = some v₂ → Fr h₀ L h m → News h₀ L h ((I, oI) :: (C, oC) :: led) →
      (∀ (T : Addr) (h' : Heap) (tk' : Nat), Fr h₀ L h' m → News h₀ L h' ((T, tupOf #[v₂, v₁] 0) :: (I, oI) :: (C, oC) :: led) → (∀ q ∈ (I, oI) :: (C, oC) :: led, @LT.lt Nat _ q.1 T) → Q (.ref T) { s with heap := h', toks := tk' }) →
      wpAny (model prog w) A (eval elt (compEnvC scope cl C env)) Q E' { s with heap := h, toks := tk })
    (fin : ∀ ys ex, PairsL ex ys (ps.map fun q => (q.2, q.1)) → (∀ q ∈ ex, hT.get? q.1 = none) → Fin ys (ex ++ news0)) :
    ∀ k i ys ex, i + k = pvs.length → PairsL ex ys ((ps.take i).map fun q => (q.2, q.1)) → (∀ q ∈ ex, hT.get? q.1 = none) →
      LCp.CompRestP prog w A h₀ L m env elt x x₂ scope cl s (LCg.SrcAt h₀ pb pvs.toArray) (fun i v => pvs.toArray[i]? = some v) Fin k i ys (ex ++ news0)
  | 0, i, ys, ex, e, hy, hn => by
    refine LCp.CompRestP.zero (fin ys ex ?_ hn)
    have e1 : ps.take i = ps := List.take_of_length_le (by rw [← hps.len]; exact ar446 e)
    rw [e1] at hy; exact hy
  | k + 1, i, ys, ex, e, hy, hn => by
    refine LCp.CompRestP.succ fun v hv => ?_
    have hv : pvs[i]? = some v := by simpa using hv
    obtain ⟨t, a, b, n, rfl, hab, ht⟩ := hps.at hv
    refine ⟨t, tupOf #[.ref a, .ref b] n, .ref a, .ref b, n, rfl, List.mem_append_right _ ht, rfl, rfl, ?_⟩
    intro I oI C oC D m₂ h tk E' hC hx hx2 F N off ne
    refine hel I oI C oC m₂ h tk E' _ ((D, LCg.lst ys) :: (ex ++ news0)) _ _ hC hx hx2 F N fun T h' tk' F' N' lT => ?_
    have hT0 : hT.get? T = none := no T (N' _ (.head _)).2.2 fun q hq e => Nat.lt_irrefl _ (e ▸ lT q (.tail _ (.tail _ (.tail _ (List.mem_append_right _ hq)))))
    have gt_ne : ∀ {a b : Nat}, a < b → b ≠ a := fun h e => Nat.lt_irrefl _ (e ▸ h)
    refine ⟨h', tk', (T, tupOf #[.ref b, .ref a] 0) :: (ex ++ news0), rfl, F', News.sub N' fun q hq => ?_, ⟨⟨gt_ne (lT _ (.head _)), gt_ne (lT _ (.tail _ (.head _))), gt_ne (lT _ (.tail _ (.tail _ (.head _))))⟩, off⟩, ?_, ?_⟩
    · exact (by walk_at "mine subs" : ∀ z ∈ _, z ∈ _) q hq
    · obtain ⟨kk, hk⟩ := hsrc
      exact .inr ⟨_, .tail _ (List.mem_append_right _ hk), rfl, _, rfl⟩
    · refine turned_rest hps hsrc no hel fin k (i + 1) (ys ++ [.ref T]) ((T, tupOf #[.ref b, .ref a] 0) :: ex) (by exact ar447 e) ?_ fun q hq => ?_
      · rw [List.take_add_one, hab, List.map_append]
        exact (hy.mono fun q h => .tail _ h).append (.cons (.head _) .nil)
      · rcases List.mem_cons.mp hq with h | h
        · rw [h]; exact hT0
        · exact hn q h
theorem off1_mem {D : Addr} : ∀ {l : List (Addr × Obj)}, LCg.Off1 D l → ∀ p ∈ l, p.1 ≠ D
  | [], _, _, h => nomatch h
  | _ :: _, x, p, h => by
    rcases List.mem_cons.mp h with rfl | h
    · exact x.1
    · exact off1_mem x.2 p h
theorem post_ (l : List Int) : PySem.Challenge.rw_og0075_01.row.claim.post [ofPy (PyData.list (l.map PyData.int))] (WData.bool true) [ofPy (PyData.list (l.map PyData.int))] = true := by
  refine' postW_of ?s ?v ?e
  case s => rfl
  case v => wtm_val
  rfl
end
section
-- L2
open PySem.Spec
theorem fillL2 : ∀ P : Params, (hd.heap_39 P) = hd.heap_39 P ∧ PySem.Challenge.rw_og0075_01 = PySem.Challenge.rw_og0075_01 := by
  k_fill
  intro P; exact ⟨rfl, rfl⟩
local macro_rules | `(tactic| walk_at $s:str) => `(tactic| k_extra $s)
theorem root_K {prog : Program} {w : World} {A : Around} {s : Shared} {p : Program} {loose : List Str} {mean : ExcName → Option Value} {mg mb : Str → Option Value} {E : Value → Shared → Prop} {Q : Value → Shared → Prop} {h₀ : Heap} {L : Addr} {m : Str → Option Value} {P : Addr} {n : Nat} {vs : List Value} {news : List (Addr × Obj)} {g : Obj → List (Addr × Obj)}
   (F : Fr h₀ L s.heap m) (X : (hd.heap_39 w.params).In h₀) (T : Top p loose mean mg mb h₀) (N : News h₀ L s.heap news) (U : UpdF P (listOf vs.toArray n) news g) (ok : PoolOk vs)
   (hdp : A.depth + 20 < recursionLimit) (hh : A.handled = none)
   (k : ∀ x nd ks vs' n' tl h' tk', PoolOk vs' → KidsR (fun a o => (a, o) ∈ tl) w.params .none (.cons x nd ks .nil) → (nd.us = Str.ofString "" ∧ nd.Ok) → ks.UsOk → ks.Bd 3 → ks.tops.length ≤ 2 → (x :: ks.addrs).Nodup →
      Fr h₀ L h' m → News h₀ L h' (g (listOf vs'.toArray n') ++ tl) → (∀ q ∈ tl, ∀ p ∈ news, p.1 ≠ q.1) → Q (.ref x) { s with heap := h', toks := tk' }) :
   wpAny (model prog w) A (call (.ref 158) [.ref P]) Q E s := by
  obtain ⟨own, rest, e, hg, h1, h2⟩ := id U.split
  have hN := N (P, listOf vs.toArray n) (by rw [e]; exact List.mem_append_right _ (.head _))
  refine DoesP.use (root_ X T (fun b o e => F.keep b o e) hN.1 hN.2.2 ok hdp hh) F N U ?_
  rintro r o' tl' h' tk' F' N' a ⟨x, nd, ks, vs', n', rfl, rfl, ok', z1, z2, z3, z4, z5, z6⟩
  exact k x nd ks vs' n' tl' h' tk' ok' z1 z2 z3 z4 z5 z6 F' N' a
theorem wp_any {M : Model} {A : Around} {α : Type} {t : Sem α} {Q : α → Shared → Prop} {E : Value → Shared → Prop} {s : Shared} (h : ∀ A' : Around, A'.depth = A.depth → A'.handled = A.handled → A'.units = A.units → wpAny M A' t Q E s) : wpAny M A t Q E s := h A rfl rfl rfl
inductive Mid1 (h₀ : Heap) (L : Addr) (s s' : Shared) : Prop
  | mk : ∀ (h' : Heap) (tk' : Nat) (pa : Addr) (pn : Nat) (vs' : List Value) (m0 : Str → Option Value), (s' = { s with heap := h', toks := tk' }) → (Fr h₀ L h' (fun y => if y = Str.ofString "pool" then some (.ref pa) else m0 y)) → (News h₀ L h' [(pa, listOf vs'.toArray pn), (113, tabObj #[])]) → (PoolOk vs') → (113 ≠ pa) → Mid1 h₀ L s s'
structure RootF (P : Params) (tl : List (Addr × Obj)) (x : Addr) (n : Nd) (ks : G) : Prop where
  kids : KidsR (fun a o => (a, o) ∈ tl) P .none (.cons x n ks .nil)
  own : n.us = Str.ofString "" ∧ n.Ok
  us : ks.UsOk
  bd : ks.Bd 3
  two : ks.tops.length ≤ 2
  nd : (x :: ks.addrs).Nodup
inductive Mid2 (P : Params) (h₀ : Heap) (L : Addr) (s s' : Shared) : Prop
  | mk : ∀ (h' : Heap) (tk' : Nat) (x1 : Addr) (n1 : Nd) (k1 : G) (x2 : Addr) (n2 : Nd) (k2 : G) (tl1 tl2 : List (Addr × Obj)) (m0 : Str → Option Value), (s' = { s with heap := h', toks := tk' }) → (Fr h₀ L h' (fun y => if y = Str.ofString "one" then some (.ref x1) else if y = Str.ofString "other" then some (.ref x2) else m0 y)) → (News h₀ L h' ((113, tabObj #[]) :: (tl1 ++ tl2))) → (RootF P tl1 x1 n1 k1) → (RootF P tl2 x2 n2 k2) → ((∀ q ∈ tl1 ++ tl2, q.1 ≠ 113)) → Mid2 P h₀ L s s'
inductive Mid3 (h₀ : Heap) (L : Addr) (s : Shared) (x1 x2 : Addr) (hT : Heap) (tl : List (Addr × Obj)) (D1 D2 : PyData) (s' : Shared) : Prop
  | mk : ∀ (h' : Heap) (tk' : Nat) (bf : Addr) (r1 r2 : Value) (tB : List (Addr × Obj)) (m0 : Str → Option Value), (s' = { s with heap := h', toks := tk' }) → (Fr h₀ L h' (fun y => if y = Str.ofString "before" then some (.ref bf) else if y = Str.ofString "one" then some (.ref x1) else if y = Str.ofString "other" then some (.ref x2) else m0 y)) → (News h₀ L h' ((bf, tupOf #[r1, r2] 0) :: (113, tabObj #[]) :: (tB ++ tl))) → (ReadsL hT tB r1 D1) → (ReadsL hT tB r2 D2) → (∀ q ∈ (bf, tupOf #[r1, r2] 0) :: tB, Off0 hT q.1) → Mid3 h₀ L s x1 x2 hT tl D1 D2 s'
inductive Mid4 (h₀ : Heap) (L : Addr) (s : Shared) (x1 x2 : Addr) (k1 k2 : G) (hT : Heap) (tl : List (Addr × Obj)) (D1 D2 : PyData) (s' : Shared) : Prop
  | mk : ∀ (h' : Heap) (tk' : Nat) (bf sa oa : Addr) (svs ovs : List Value) (sn on : Nat) (r1 r2 : Value) (tB : List (Addr × Obj)) (m0 : Str → Option Value), (s' = { s with heap := h', toks := tk' }) → (Fr h₀ L h' (fun y => if y = Str.ofString "some" then some (.ref sa) else if y = Str.ofString "others" then some (.ref oa) else if y = Str.ofString "before" then some (.ref bf) else if y = Str.ofString "one" then some (.ref x1) else if y = Str.ofString "other" then some (.ref x2) else m0 y)) → (News h₀ L h' ((oa, listOf ovs.toArray on) :: (sa, listOf svs.toArray sn) :: (bf, tupOf #[r1, r2] 0) :: (113, tabObj #[]) :: (tB ++ tl))) → (ReadsL hT tB r1 D1) → (ReadsL hT tB r2 D2) → (WaysL tB svs (k1.ways [])) → (WaysL tB ovs (k2.ways [])) → (∀ q ∈ (oa, listOf ovs.toArray on) :: (sa, listOf svs.toArray sn) :: (bf, tupOf #[r1, r2] 0) :: tB, Off0 hT q.1) → Mid4 h₀ L s x1 x2 k1 k2 hT tl D1 D2 s'
inductive Mid5 (h₀ : Heap) (L : Addr) (s : Shared) (x1 x2 : Addr) (k1 k2 : G) (hT : Heap) (tl : List (Addr × Obj)) (D1 D2 : PyData) (s' : Shared) : Prop
  | mk : ∀ (h' : Heap) (tk' : Nat) (D bf sa oa : Addr) (dvs svs ovs : List Value) (dn sn on : Nat) (r1 r2 : Value) (tB : List (Addr × Obj)) (m0 : Str → Option Value), (s' = { s with heap := h', toks := tk' }) → (Fr h₀ L h' (fun y => if y = Str.ofString "due" then some (.ref D) else if y = Str.ofString "some" then some (.ref sa) else if y = Str.ofString "others" then some (.ref oa) else if y = Str.ofString "before" then some (.ref bf) else if y = Str.ofString "one" then some (.ref x1) else if y = Str.ofString "other" then some (.ref x2) else m0 y)) → (News h₀ L h' ((D, listOf dvs.toArray dn) :: (oa, listOf ovs.toArray on) :: (sa, listOf svs.toArray sn) :: (bf, tupOf #[r1, r2] 0) :: (113, tabObj #[]) :: (tB ++ tl))) → (ReadsL hT tB r1 D1) → (ReadsL hT tB r2 D2) → (WaysL tB svs (k1.ways [])) → (WaysL tB ovs (k2.ways [])) → (PlaceL tB dvs ((dueL (k1.ways []) (k2.ways []) (k1.ways []).length).map sg)) → (∀ q ∈ (D, listOf dvs.toArray dn) :: (oa, listOf ovs.toArray on) :: (sa, listOf svs.toArray sn) :: (bf, tupOf #[r1, r2] 0) :: tB, Off0 hT q.1) → Mid5 h₀ L s x1 x2 k1 k2 hT tl D1 D2 s'
inductive Mid6 (h₀ : Heap) (L : Addr) (s : Shared) (x1 x2 : Addr) (k1 k2 : G) (hT : Heap) (tl : List (Addr × Obj)) (D1 D2 : PyData) (s' : Shared) : Prop
  | mk : ∀ (h' : Heap) (tk' : Nat) (pa D bf sa oa : Addr) (pvs dvs svs ovs : List Value) (pn dn sn on : Nat) (r1 r2 : Value) (tB tb : List (Addr × Obj)) (m0 : Str → Option Value), (s' = { s with heap := h', toks := tk' }) → (Fr h₀ L h' (fun y => if y = Str.ofString "pairs" then some (.ref pa) else if y = Str.ofString "due" then some (.ref D) else if y = Str.ofString "some" then some (.ref sa) else if y = Str.ofString "others" then some (.ref oa) else if y = Str.ofString "before" then some (.ref bf) else if y = Str.ofString "one" then some (.ref x1) else if y = Str.ofString "other" then some (.ref x2) else m0 y)) → (News h₀ L h' ((pa, listOf pvs.toArray pn) :: (D, listOf dvs.toArray dn) :: (oa, listOf ovs.toArray on) :: (sa, listOf svs.toArray sn) :: (bf, tupOf #[r1, r2] 0) :: (tb ++ (tB ++ tl)))) → (ReadsL hT tB r1 D1) → (ReadsL hT tB r2 D2) → (WaysL tB svs (k1.ways [])) → (WaysL tB ovs (k2.ways [])) → (PlaceL tB dvs ((dueL (k1.ways []) (k2.ways []) (k1.ways []).length).map sg)) → (PairsL tB pvs (alike 3 k1 k2)) → (Tab tb) → ((∀ q ∈ (D, listOf dvs.toArray dn) :: (oa, listOf ovs.toArray on) :: (sa, listOf svs.toArray sn) :: (bf, tupOf #[r1, r2] 0) :: (tB ++ tl), q.1 ∉ tb.map (·.1))) → ((∀ q ∈ (pa, listOf pvs.toArray pn) :: (D, listOf dvs.toArray dn) :: (oa, listOf ovs.toArray on) :: (sa, listOf svs.toArray sn) :: (bf, tupOf #[r1, r2] 0) :: (tb ++ tB), hT.get? q.1 = none)) → Mid6 h₀ L s x1 x2 k1 k2 hT tl D1 D2 s'
inductive Mid7 (h₀ : Heap) (L : Addr) (s : Shared) (x1 x2 : Addr) (k1 k2 : G) (hT : Heap) (tl : List (Addr × Obj)) (D1 D2 : PyData) (s' : Shared) : Prop
  | mk : ∀ (h' : Heap) (tk' : Nat) (D bf sa oa : Addr) (dvs svs ovs : List Value) (dn sn on : Nat) (r1 r2 : Value) (tB tb : List (Addr × Obj)) (m0 : Str → Option Value), (s' = { s with heap := h', toks := tk' }) → (Fr h₀ L h' (fun y => if y = Str.ofString "due" then some (.ref D) else if y = Str.ofString "some" then some (.ref sa) else if y = Str.ofString "others" then some (.ref oa) else if y = Str.ofString "before" then some (.ref bf) else if y = Str.ofString "one" then some (.ref x1) else if y = Str.ofString "other" then some (.ref x2) else m0 y)) → (News h₀ L h' ((D, listOf dvs.toArray dn) :: (oa, listOf ovs.toArray on) :: (sa, listOf svs.toArray sn) :: (bf, tupOf #[r1, r2] 0) :: (tb ++ (tB ++ tl)))) → (ReadsL hT tB r1 D1) → (ReadsL hT tB r2 D2) → (WaysL tB svs (k1.ways [])) → (WaysL tB ovs (k2.ways [])) → (PlaceL tB dvs ((dueL (k1.ways []) (k2.ways []) (k1.ways []).length).map sg)) → (Tab tb) → ((∀ q ∈ (D, listOf dvs.toArray dn) :: (oa, listOf ovs.toArray on) :: (sa, listOf svs.toArray sn) :: (bf, tupOf #[r1, r2] 0) :: (tB ++ tl), q.1 ∉ tb.map (·.1))) → ((∀ q ∈ (D, listOf dvs.toArray dn) :: (oa, listOf ovs.toArray on) :: (sa, listOf svs.toArray sn) :: (bf, tupOf #[r1, r2] 0) :: (tb ++ tB), hT.get? q.1 = none)) → Mid7 h₀ L s x1 x2 k1 k2 hT tl D1 D2 s'
inductive Mid8 (h₀ : Heap) (L : Addr) (s : Shared) (x1 x2 : Addr) (k1 k2 : G) (hT : Heap) (tl : List (Addr × Obj)) (D1 D2 : PyData) (s' : Shared) : Prop
  | mk : ∀ (h' : Heap) (tk' : Nat) (pa D bf sa oa : Addr) (pvs dvs svs ovs : List Value) (pn dn sn on : Nat) (r1 r2 : Value) (tB : List (Addr × Obj)) (m0 : Str → Option Value), (s' = { s with heap := h', toks := tk' }) → (Fr h₀ L h' (fun y => if y = Str.ofString "turned" then some (.ref pa) else if y = Str.ofString "due" then some (.ref D) else if y = Str.ofString "some" then some (.ref sa) else if y = Str.ofString "others" then some (.ref oa) else if y = Str.ofString "before" then some (.ref bf) else if y = Str.ofString "one" then some (.ref x1) else if y = Str.ofString "other" then some (.ref x2) else m0 y)) → (News h₀ L h' ((pa, listOf pvs.toArray pn) :: (D, listOf dvs.toArray dn) :: (oa, listOf ovs.toArray on) :: (sa, listOf svs.toArray sn) :: (bf, tupOf #[r1, r2] 0) :: (tB ++ tl))) → (ReadsL hT tB r1 D1) → (ReadsL hT tB r2 D2) → (WaysL tB svs (k1.ways [])) → (WaysL tB ovs (k2.ways [])) → (PlaceL tB dvs ((dueL (k1.ways []) (k2.ways []) (k1.ways []).length).map sg)) → (PairsL tB pvs ((alike 3 k2 k1).map fun q => (q.2, q.1))) → ((∃ ps, (113, tabObj ps) ∈ tB)) → ((∀ q ∈ (pa, listOf pvs.toArray pn) :: (D, listOf dvs.toArray dn) :: (oa, listOf ovs.toArray on) :: (sa, listOf svs.toArray sn) :: (bf, tupOf #[r1, r2] 0) :: tB, hT.get? q.1 = none)) → Mid8 h₀ L s x1 x2 k1 k2 hT tl D1 D2 s'
theorem instUp {hT h₀ h : Heap} {L x C : Addr} {m : Str → Option Value} {led tl : List (Addr × Obj)} {ox : Obj} {od : Option Obj} (I : PySem.W.InstAt hT x ox C od) (up : ∀ h2 : Heap, h₀.StaysIn h2 → (∀ q ∈ tl, h2.get? q.1 = some q.2) → hT.StaysIn h2) (F : Fr h₀ L h m) (N : News h₀ L h led) (sub : ∀ q ∈ tl, q ∈ led) : PySem.W.InstAt h x ox C od :=
  inst_keeps I (up h F.keep fun q hq => (N q (sub q hq)).1)
local macro_rules | `(tactic| k_inst) => `(tactic| (refine' instUp ?I ?up ?F ?N ?sub; (case I => assumption); (case up => assumption); (case F => k_asm); (case N => k_asm); (case sub => intro q hq; repeat (first | exact hq | refine' List.mem_append_right _ ?_ | refine' List.Mem.tail _ ?_))))
theorem law_ : PySem.Challenge.rw_og0075_01.Holds := hd (by
  w_strict k_go0
  all_goals (try k_fold)
  rename World => w
  rename Shared => s1
  rename Fr _ _ _ _ => F0
  rename News _ _ _ _ => N0
  rename Frag.In _ (ghostOf _ _) => X0
  rename Top _ _ _ _ _ (ghostOf _ _) => T0
  rename IntsAre _ _ => I0
  rename ¬ _ < _ => L0
  refine execs_cutN (Mid1 (ghostOf s1.heap [(117, 113)]) s1.heap.objs.size s1) 1 ?_ ?_
  case refine_1 =>
    dsimp only [List.take]
    k_steps
    refine ⟨⟨_, _, _, ys.length, _, _, rfl, by assumption, News.sub (by assumption) ?_, poolOk_of (P := Int.toNat 80) rfl (by assumption) ?_, ?_⟩⟩
    · intro q hq
      rcases List.mem_cons.mp hq with h | h
      · rw [h]; exact .head _
      · exact .tail _ (.tail _ h)
    · omega
    · exact And.right (by assumption)
  rintro s' ⟨h1, tk1, pa, pn, vs1, m0, rfl, F1, N1, ok1, npa⟩
  clear F0 N0
  refine wp_any fun A hA1 hA2 hA3 => ?_
  have hdp : A.depth = 302 := hA1.trans rfl
  have hh : A.handled = none := hA2.trans rfl
  have hu : A.units < 100 := by rw [hA3]; exact Nat.le_of_ble_eq_true rfl
  clear hA1 hA2 hA3
  refine wpAny_mono (E := NoE) ?_ (fun _ _ q => q) (fun _ _ e => e.elim)
  refine execs_cutN (Mid2 w.params (ghostOf s1.heap [(117, 113)]) s1.heap.objs.size s1) 1 ?_ ?_
  case refine_1 =>
    dsimp only [List.drop, List.take]
    k_with "call ref" => ((with_reducible show wpAny _ _ (call (Value.ref 158) _ _) _ _ _); refine stop_here ?_)
    k_steps
    refine ⟨?_⟩
    rename Fr _ _ _ _ => F2
    rename News _ _ _ _ => N2
    refine root_K F2 X0 T0 N2 (by k_updF) ok1 (by rw [hdp]; decide) hh ?_
    intro x1 nd1 ks1 vs2 pn2 tl1 h2 tk2 ok2 a1 a2 a3 a4 a5 a6 F3 N3 off1
    clear F2 N2
    have N3 : News (ghostOf s1.heap [(117, 113)]) s1.heap.objs.size h2 ((pa, listOf vs2.toArray pn2) :: (113, tabObj #[]) :: tl1) := N3
    have npa1 : ∀ q ∈ (113, tabObj #[]) :: tl1, q.1 ≠ pa := fun q hq => by
      rcases List.mem_cons.mp hq with h | h
      · rw [h]; exact npa
      · exact fun e => off1 q h _ (.head _) e.symm
    try dsimp only
    try k_fold
    k_steps
    refine ⟨?_⟩
    rename Fr _ _ _ _ => F4
    rename News _ _ _ _ => N4
    refine root_K F4 X0 T0 N4 (UpdF.head npa1) ok2 (by rw [hdp]; decide) hh ?_
    intro x2 nd2 ks2 vs3 pn3 tl2 h3 tk3 ok3 b1 b2 b3 b4 b5 b6 F5 N5 off2
    clear F4 N4
    try dsimp only
    try k_fold
    k_steps
    rename Fr _ _ _ _ => F6
    rename News _ _ _ _ => N6
    with_unfolding_all refine unpackItemsN_ (items := #[.ref x1, .ref x2]) F6 N6 ⟨_, (N6 _ (.head _)).1, rfl, _, rfl⟩ hh rfl ?_
    intro h7 F7 N7
    clear F6 N6
    try dsimp only
    try k_fold
    k_steps
    refine ⟨⟨_, _, x1, nd1, ks1, x2, nd2, ks2, tl1, tl2, _, rfl, by assumption, News.sub (by assumption) fun q hq => .tail _ (.tail _ hq), ⟨a1, a2, a3, a4, a5, a6⟩, ⟨b1, b2, b3, b4, b5, b6⟩, fun q hq => ?_⟩⟩
    rcases List.mem_append.mp hq with h | h
    · exact fun e => off1 q h _ (.tail _ (.head _)) e.symm
    · exact fun e => off2 q h _ (.tail _ (.head _)) e.symm
  rintro s' ⟨h2, tk2, x1, n1, k1, x2, n2, k2, tl1, tl2, m0, rfl, F2, N2, R1, R2, nt⟩
  clear F1 N1 ok1 npa
  obtain ⟨hT, S0, tT, upT, noT⟩ := mkBase F2 (News.sub N2 (l' := tl1 ++ tl2) fun q hq => .tail _ hq)
  have K1 := R1.kids.mono (has' := fun a o => hT.get? a = some o) fun a o h => tT (a, o) (List.mem_append_left _ h)
  have K2 := R2.kids.mono (has' := fun a o => hT.get? a = some o) fun a o h => tT (a, o) (List.mem_append_right _ h)
  obtain ⟨⟨d1, kl1, cl1, tkx1, oc1, en1, kn1, cn1, q11, q12, q13, q14, q15⟩, K1k, _⟩ := id K1
  obtain ⟨⟨d2, kl2, cl2, tkx2, oc2, en2, kn2, cn2, q21, q22, q23, q24, q25⟩, K2k, _⟩ := id K2
  have I1 : PySem.W.InstAt hT x1 (instObj 88 d1) 88 (some (dictOf (nodeEs w.params tkx1 n1 oc1 cl1 kl1 .none) en1)) := ⟨q11, rfl, rfl, q12⟩
  have I2 : PySem.W.InstAt hT x2 (instObj 88 d2) 88 (some (dictOf (nodeEs w.params tkx2 n2 oc2 cl2 kl2 .none) en2)) := ⟨q21, rfl, rfl, q22⟩
  have IR1 : ItemR hT w.params x1 n1 k1 .none [] := ⟨K1.1, K1.2.1, rfl, fun _ => R1.own.1, R1.us, R1.two⟩
  have IR2 : ItemR hT w.params x2 n2 k2 .none [] := ⟨K2.1, K2.2.1, rfl, fun _ => R2.own.1, R2.us, R2.two⟩
  have CH : CodeHd (ghostOf s1.heap [(117, 113)]) 117 113 := codeHd
  have h113 : hT.get? 113 = none := noT _ (N2 _ (.head _)).2.2 nt
  obtain ⟨D1, hD1⟩ : ∃ D1, (toldD (.cons x1 n1 k1 .nil))[0]? = some D1 := ⟨_, rfl⟩
  obtain ⟨D2, hD2⟩ : ∃ D2, (toldD (.cons x2 n2 k2 .nil))[0]? = some D2 := ⟨_, rfl⟩
  refine execs_cutN (Mid3 (ghostOf s1.heap [(117, 113)]) s1.heap.objs.size s1 x1 x2 hT (tl1 ++ tl2) D1 D2) 1 ?_ ?_
  case refine_1 =>
   dsimp only [List.drop, List.take]
   k_with "call ref" => ((with_reducible show wpAny _ _ (call (Value.ref 85) _ _) _ _ _); refine stop_here ?_)
   try k_fold
   k_steps
   refine ⟨?_⟩
   rename Fr _ _ _ _ => F3
   rename News _ _ _ _ => N3
   refine Does.use (ws := []) (rest := (113, tabObj #[]) :: (tl1 ++ tl2)) (told_ (X0.keeps S0) (T0.keeps S0) (.cons x1 n1 k1 .nil) 4 .none K1 ⟨R1.two, R1.bd, trivial⟩ 0 x1 rfl A _ (upT _ F3.keep fun q hq => (N3 q (.tail _ hq)).1) (by rw [hdp]; decide) hh) F3 N3 (fun _ h => nomatch h) (fun _ _ h => nomatch h) ?_
   rintro r1 h4 tk4 ta F4 N4 off4 ⟨D, e1, rd1⟩
   obtain rfl : D = D1 := Option.some.inj (e1.symm.trans hD1)
   have N4 : News (ghostOf s1.heap [(117, 113)]) s1.heap.objs.size h4 ((113, tabObj #[]) :: (ta ++ (tl1 ++ tl2))) := News.sub N4 fun q hq => by
     exact (by walk_at "mine subs" : ∀ z ∈ _, z ∈ _) q hq
   clear F3 N3
   try dsimp only
   try k_fold
   k_steps
   refine ⟨?_⟩
   rename Fr _ _ _ _ => F5
   rename News _ _ _ _ => N5
   refine Does.use (ws := []) (rest := (113, tabObj #[]) :: (ta ++ (tl1 ++ tl2))) (told_ (X0.keeps S0) (T0.keeps S0) (.cons x2 n2 k2 .nil) 4 .none K2 ⟨R2.two, R2.bd, trivial⟩ 0 x2 rfl A _ (upT _ F5.keep fun q hq => (N5 q (.tail _ (List.mem_append_right _ hq))).1) (by rw [hdp]; decide) hh) F5 N5 (fun _ h => nomatch h) (fun _ _ h => nomatch h) ?_
   rintro r2 h6 tk6 tb F6 N6 off6 ⟨D', e2, rd2⟩
   obtain rfl : D' = D2 := Option.some.inj (e2.symm.trans hD2)
   have N6 : News (ghostOf s1.heap [(117, 113)]) s1.heap.objs.size h6 ((113, tabObj #[]) :: ((ta ++ tb) ++ (tl1 ++ tl2))) := News.sub N6 fun q hq => by
     exact (by walk_at "mine subs" : ∀ z ∈ _, z ∈ _) q hq
   clear F5 N5
   try dsimp only
   try k_fold
   k_with "newTuple" => (k_here; k_dflt (refine' kup_newTuple ?F ?N ?_ ?z; (case F => k_asm); (case N => k_asm); (case z => kmk_size)); intro bf hbf Fbf Nbf lbf; (try k_sweep))
   k_steps
   have lbf : ∀ q ∈ (113, tabObj #[]) :: ((ta ++ tb) ++ (tl1 ++ tl2)), @LT.lt Nat _ q.1 bf := lbf
   rename Fr _ _ _ _ => F7
   rename News _ _ _ _ => N7
   refine ⟨⟨_, _, bf, r1, r2, ta ++ tb, _, rfl, F7, N7, rd1.mono fun q hq => List.mem_append_left _ hq, rd2.mono fun q hq => List.mem_append_right _ hq, fun q hq => ?_⟩⟩
   rcases List.mem_cons.mp hq with h | hq
   · rw [h]; exact ⟨fun e => Nat.lt_irrefl _ (e ▸ lbf _ (.head _)), noT _ (N7 _ (.head _)).2.2 fun q hq e => Nat.lt_irrefl _ (e ▸ lbf q (.tail _ (List.mem_append_right _ hq)))⟩
   · have hg := (N7 q (.tail _ (.tail _ (List.mem_append_left _ hq)))).2.2
     rcases List.mem_append.mp hq with h | h
     · rcases off4 q h with z | z
       · cases z
       · exact ⟨(z _ (.head _)).symm, noT _ hg fun p hp => z p (.tail _ hp)⟩
     · rcases off6 q h with z | z
       · cases z
       · exact ⟨(z _ (.head _)).symm, noT _ hg fun p hp => z p (.tail _ (List.mem_append_right _ hp))⟩
  clear F2 N2 q11 q12 q13 q14 q15 q21 q22 q23 q24 q25
  rintro s' ⟨h3, tk3, bf, r1, r2, tB, m0, rfl, F3, N3, rd1, rd2, nB⟩
  refine execs_cutN (Mid4 (ghostOf s1.heap [(117, 113)]) s1.heap.objs.size s1 x1 x2 k1 k2 hT (tl1 ++ tl2) D1 D2) 1 ?_ ?_
  case refine_1 =>
    dsimp only [List.drop, List.take]
    have new : ∀ {T : Addr} {tl' old : List (Addr × Obj)}, Off0 hT T → (113, tabObj #[]) ∈ old → (∀ p ∈ tl1 ++ tl2, p ∈ old) → (∀ q ∈ tl', q.1 ∈ [T] ∨ ∀ p ∈ old, p.1 ≠ q.1) → ∀ q ∈ tl', (ghostOf s1.heap [(117, 113)]).get? q.1 = none → Off0 hT q.1 := fun hT' h1 h2 off q hq hg => by
      rcases off q hq with z | z
      · rw [List.mem_singleton.mp z]; exact hT'
      · exact ⟨(z _ h1).symm, noT _ hg fun p hp => z p (h2 p hp)⟩
    k_with "call ref" => ((with_reducible show wpAny _ _ (call (Value.ref 163) _ _) _ _ _); refine stop_here ?_)
    k_with "newTuple" => (k_here; k_dflt (refine' kup_newTuple ?F ?N ?_ ?z; (case F => k_asm); (case N => k_asm); (case z => kmk_size)); intro TA hTA FTA NTA lTA; (try k_sweep))
    try k_fold
    k_steps
    refine ⟨?_⟩
    rename Fr _ _ _ _ => F4
    rename News _ _ _ _ => N4
    have lT4 : ∀ q ∈ (bf, tupOf #[r1, r2] 0) :: (113, tabObj #[]) :: (tB ++ (tl1 ++ tl2)), @LT.lt Nat _ q.1 TA := lTA
    have nT4 : hT.get? TA = none := noT _ (N4 _ (.head _)).2.2 fun q hq e => Nat.lt_irrefl _ (e ▸ lT4 q (.tail _ (.tail _ (List.mem_append_right _ hq))))
    clear lTA
    refine Does.use (ws := [(TA, tupOf #[] 0)]) (rest := (bf, tupOf #[r1, r2] 0) :: (113, tabObj #[]) :: (tB ++ (tl1 ++ tl2))) (ways_ 3 (X0.keeps S0) (T0.keeps S0) (upT _ F4.keep fun q hq => (N4 q (.tail _ (.tail _ (.tail _ (List.mem_append_right _ hq))))).1) K1.1 K1k R1.two R1.bd .nil (by decide) (by decide) (by rw [hdp]; decide) hh (by exact ar278 hu) ⟨(N4 _ (.head _)).1, nT4⟩) F4 N4 (fun a ha => ⟨tupOf #[] 0, by rw [List.mem_singleton.mp ha]; exact .head _⟩) (fun q hq ha => Nat.lt_irrefl _ (List.mem_singleton.mp ha ▸ lT4 q hq)) ?_
    rintro r h5 tk5 tl5 F5 N5 off5 ⟨sa, sn, svs, ex1, rfl, rfl, w1, _⟩
    have N5 : News (ghostOf s1.heap [(117, 113)]) s1.heap.objs.size h5 ((sa, listOf svs.toArray sn) :: (bf, tupOf #[r1, r2] 0) :: (113, tabObj #[]) :: ((ex1 ++ tB) ++ (tl1 ++ tl2))) := News.sub N5 fun q hq => by
      exact (by walk_at "mine subs" : ∀ z ∈ _, z ∈ _) q hq
    have new5 := new ⟨fun e => Nat.lt_irrefl _ (e ▸ lT4 _ (.tail _ (.head _))), nT4⟩ (.tail _ (.tail _ (.head _))) (fun p hp => .tail _ (.tail _ (.tail _ (List.mem_append_right _ hp)))) off5
    clear nT4 lT4
    clear F4 N4
    try dsimp only
    try k_fold
    k_steps
    refine ⟨?_⟩
    rename Fr _ _ _ _ => F6
    rename News _ _ _ _ => N6
    have lT6 : ∀ q ∈ (sa, listOf svs.toArray sn) :: (bf, tupOf #[r1, r2] 0) :: (113, tabObj #[]) :: ((ex1 ++ tB) ++ (tl1 ++ tl2)), @LT.lt Nat _ q.1 TA := lTA
    have nT6 : hT.get? TA = none := noT _ (N6 _ (.head _)).2.2 fun q hq e => Nat.lt_irrefl _ (e ▸ lT6 q (.tail _ (.tail _ (.tail _ (List.mem_append_right _ hq)))))
    have zT6 : Off0 hT TA := ⟨fun e => Nat.lt_irrefl _ (e ▸ lT6 _ (.tail _ (.tail _ (.head _)))), nT6⟩
    clear lTA
    refine Does.use (ws := [(TA, tupOf #[] 0)]) (rest := (sa, listOf svs.toArray sn) :: (bf, tupOf #[r1, r2] 0) :: (113, tabObj #[]) :: ((ex1 ++ tB) ++ (tl1 ++ tl2))) (ways_ 3 (X0.keeps S0) (T0.keeps S0) (upT _ F6.keep fun q hq => (N6 q (.tail _ (.tail _ (.tail _ (.tail _ (List.mem_append_right _ hq)))))).1) K2.1 K2k R2.two R2.bd .nil (by decide) (by decide) (by rw [hdp]; decide) hh (by exact ar278 hu) ⟨(N6 _ (.head _)).1, nT6⟩) F6 N6 (fun a ha => ⟨tupOf #[] 0, by rw [List.mem_singleton.mp ha]; exact .head _⟩) (fun q hq ha => Nat.lt_irrefl _ (List.mem_singleton.mp ha ▸ lT6 q hq)) ?_
    rintro r h7 tk7 tl7 F7 N7 off7 ⟨oa, on, ovs, ex2, rfl, rfl, w2, _⟩
    have N7 : News (ghostOf s1.heap [(117, 113)]) s1.heap.objs.size h7 ((oa, listOf ovs.toArray on) :: (sa, listOf svs.toArray sn) :: (bf, tupOf #[r1, r2] 0) :: (113, tabObj #[]) :: ((ex2 ++ (ex1 ++ tB)) ++ (tl1 ++ tl2))) := News.sub N7 fun q hq => by
      exact (by walk_at "mine subs" : ∀ z ∈ _, z ∈ _) q hq
    clear F6 N6
    try dsimp only
    try k_fold
    k_steps
    rename Fr _ _ _ _ => F8
    rename News _ _ _ _ => N8
    with_unfolding_all refine unpackItemsN_ (items := #[.ref sa, .ref oa]) F8 N8 ⟨_, (N8 _ (.head _)).1, rfl, _, rfl⟩ hh rfl ?_
    intro h9 F9 N9
    clear F8 N8
    try dsimp only
    try k_fold
    k_steps
    rename Fr _ _ _ _ => F9
    rename News _ _ _ _ => N9
    have N9 : News (ghostOf s1.heap [(117, 113)]) s1.heap.objs.size _ ((oa, listOf ovs.toArray on) :: (sa, listOf svs.toArray sn) :: (bf, tupOf #[r1, r2] 0) :: (113, tabObj #[]) :: ((ex2 ++ (ex1 ++ tB)) ++ (tl1 ++ tl2))) := News.sub N9 fun q hq => .tail _ hq
    have new7 := new zT6 (.tail _ (.tail _ (.tail _ (.head _)))) (fun p hp => .tail _ (.tail _ (.tail _ (.tail _ (List.mem_append_right _ hp))))) off7
    refine ⟨⟨_, _, bf, sa, oa, svs, ovs, sn, on, r1, r2, ex2 ++ (ex1 ++ tB), _, rfl, F9, N9, rd1.mono fun q hq => List.mem_append_right _ (List.mem_append_right _ hq), rd2.mono fun q hq => List.mem_append_right _ (List.mem_append_right _ hq), w1.mono fun q hq => List.mem_append_right _ (List.mem_append_left _ hq), w2.mono fun q hq => List.mem_append_left _ hq, fun q hq => ?_⟩⟩
    have hg : (ghostOf s1.heap [(117, 113)]).get? q.1 = none := by
      refine (N9 q ?_).2.2
      exact (by walk_at "mine subs" : ∀ z ∈ _, z ∈ _) q hq
    rcases List.mem_cons.mp hq with h | hq
    · rw [h]; exact new7 _ (.head _) (h ▸ hg)
    rcases List.mem_cons.mp hq with h | hq
    · rw [h]; exact new5 _ (.head _) (h ▸ hg)
    rcases List.mem_cons.mp hq with h | hq
    · rw [h]; exact nB _ (.head _)
    rcases List.mem_append.mp hq with hq | hq
    · exact new7 q (.tail _ (.tail _ hq)) hg
    rcases List.mem_append.mp hq with hq | hq
    · exact new5 q (.tail _ (.tail _ hq)) hg
    · exact nB q (.tail _ hq)
  clear F3 N3 rd1 rd2 nB
  rintro s' ⟨h4, tk4, bf, sa, oa, svs, ovs, sn, on, r1, r2, tB, m0, rfl, F4, N4, rd1, rd2, w1, w2, nB⟩
  have ls1 : svs.length ≤ 14 := by rw [w1.len]; exact ways_len R1.bd R1.two
  have ls2 : ovs.length ≤ 14 := by rw [w2.len]; exact ways_len R2.bd R2.two
  refine execs_cutN (Mid5 (ghostOf s1.heap [(117, 113)]) s1.heap.objs.size s1 x1 x2 k1 k2 hT (tl1 ++ tl2) D1 D2) 2 ?_ ?_
  case refine_1 =>
   dsimp only [List.drop, List.take]
   k_with_none
   k_with "exec For Name Call cons nil" => (refine stop_here ?_)
   k_with "newList" => (k_here; k_dflt (refine' newList_K ?k1 ?k2 ?_; (case k1 => k_asm); (case k2 => k_asm); k_whole); intro D hD FD ND lD; (try k_sweep))
   k_with "call builtin:len" => (k_here; k_dflt (refine call_len_list (News.isList (by k_asm) (by k_mem)) (by rw [List.size_toArray]; omega) ?_))
   k_with "call type:range" => (k_here; k_dflt (refine' range_K ?F ?N ?_; (case F => k_asm); (case N => k_asm); k_whole; intro r' h' tk' t1' t2' F' N' l1 R'; (try k_lt l1); (try k_sweep); (try k_fold)))
   try k_fold
   k_steps
   refine ⟨?_⟩
   refine For_invV (ghostOf s1.heap [(117, 113)]) rfl rfl ?_
   k_with "pyIter ref" => (refine stop_here ?_)
   k_steps
   refine ⟨?_⟩
   rename Fr _ _ _ _ => F5
   rename News _ _ _ _ => N5
   rename IsRange _ _ _ _ _ _ _ _ => R5
   rw [List.size_toArray] at R5
   k_with_none
   have lD' : ∀ q ∈ (oa, listOf ovs.toArray on) :: (sa, listOf svs.toArray sn) :: (bf, tupOf #[r1, r2] 0) :: (113, tabObj #[]) :: (tB ++ (tl1 ++ tl2)), q.1 ≠ D := fun q hq e => Nat.lt_irrefl _ (e ▸ lD q hq)
   have ok1 : ∀ q ∈ k1.ways [], ∀ x ∈ q.1, PyData.strOk x = true := ways_ok 3 k1 [] R1.bd R1.us (fun _ h => nomatch h)
   have ok2 : ∀ q ∈ k2.ways [], ∀ x ∈ q.1, PyData.strOk x = true := ways_ok 3 k2 [] R2.bd R2.us (fun _ h => nomatch h)
   with_unfolding_all refine for_range (fun i m news => ∃ av, DueJ hT [] av oa sa bf x1 x2 D svs ovs on sn r1 r2 tB (tl1 ++ tl2) m0 (dueL (k1.ways []) (k2.ways []) i) m news) hh R5 (small_one (by omega) (by omega) (by omega) (by omega)) range_size F5 N5 ⟨m0 (Str.ofString "at"), [], 0, [], rfl, .nil, (fun _ h => nomatch h), m0 (Str.ofString "spot"), fun z => ?_⟩ ?_ ?_
   · by_cases z1 : z = Str.ofString "spot"
     · subst z1; with_unfolding_all rfl
     · by_cases z2 : z = Str.ofString "at"
       · subst z2; with_unfolding_all rfl
       · simp only [if_neg z1, if_neg z2]
   · rintro i ti m₁ news₁ h6 tk6 J1 o1 hi hJ1 ⟨av, dvs, dn, ex, rfl, hpl, hex, sv, hm⟩ hoff F6 N6
     have em := funext hm
     subst em
     change Fr (ghostOf s1.heap [(117, 113)]) s1.heap.objs.size _ (fun y => if y = Str.ofString "at" then some (.int (0 + (i : Int)) ti) else if y = Str.ofString "spot" then sv else if y = Str.ofString "at" then av else if y = Str.ofString "due" then some (.ref D) else if y = Str.ofString "some" then some (.ref sa) else if y = Str.ofString "others" then some (.ref oa) else if y = Str.ofString "before" then some (.ref bf) else if y = Str.ofString "one" then some (.ref x1) else if y = Str.ofString "other" then some (.ref x2) else m0 y) at F6
     change News (ghostOf s1.heap [(117, 113)]) s1.heap.objs.size _ ((J1, o1) :: (D, listOf dvs.toArray dn) :: (oa, listOf ovs.toArray on) :: (sa, listOf svs.toArray sn) :: (bf, tupOf #[r1, r2] 0) :: (113, tabObj #[]) :: (ex ++ (tB ++ (tl1 ++ tl2)))) at N6
     clear F5 N5 R5
     k_with "exec For Name Call cons nil" => (refine stop_here ?_)
     k_with "call builtin:len" => (k_here; k_dflt (refine call_len_list (News.isList (by k_asm) (by k_mem)) (by rw [List.size_toArray]; omega) ?_))
     k_with "call type:range" => (k_here; k_dflt (refine' range_K ?F ?N ?_; (case F => k_asm); (case N => k_asm); k_whole; intro r' h' tk' t1' t2' F' N' l1 R'; (try k_lt l1); (try k_sweep); (try k_fold)))
     try k_fold
     k_steps
     refine ⟨?_⟩
     refine For_invV (ghostOf s1.heap [(117, 113)]) rfl rfl ?_
     k_with "pyIter ref" => (refine stop_here ?_)
     k_steps
     refine ⟨?_⟩
     rename Fr _ _ _ _ => F7
     rename News _ _ _ _ => N7
     rename IsRange _ _ _ _ _ _ _ _ => R7
     rw [List.size_toArray] at R7
     k_with_none
     have hoff1 : ∀ q ∈ ex ++ (tB ++ (tl1 ++ tl2)), q.1 ≠ J1 := fun q hq => hoff q (.tail _ (.tail _ (.tail _ (.tail _ (.tail _ hq)))))
     have hoffD : J1 ≠ D := fun e => hoff _ (.head _) e.symm
     obtain ⟨t1, u1, a1, b1, tn1, wy1, us1, um1, p1, p2, p3, p4, p5⟩ := w1.at2 (i := i) (by rw [← w1.len]; exact hi)
     with_unfolding_all refine for_range (fun j m news => DueJ hT [(J1, o1)] (some (.int (0 + (i : Int)) ti)) oa sa bf x1 x2 D svs ovs on sn r1 r2 tB (tl1 ++ tl2) m0 (dueL (k1.ways []) (k2.ways []) i ++ dueAt (k1.ways []) (k2.ways []) i j) m news) hh R7 (small_one (by omega) (by omega) (by omega) (by omega)) range_size F7 N7 ⟨dvs, dn, ex, rfl, by simpa [dueAt] using hpl, fun q hq => ⟨(hex q hq).1, (hex q hq).2.1, fun p hp => by rw [List.mem_singleton.mp hp]; exact hoff1 q (List.mem_append_left _ hq)⟩, sv, fun z => ?_⟩ ?_ ?_
     · by_cases z1 : z = Str.ofString "spot"
       · subst z1; with_unfolding_all rfl
       · by_cases z2 : z = Str.ofString "at"
         · subst z2; with_unfolding_all rfl
         · simp only [if_neg z1, if_neg z2]
     · rintro j tj m₂ news₂ h8 tk8 J2 o2 hj hJ2 ⟨dvs2, dn2, ex2, rfl, hpl2, hex2, sv2, hm2⟩ hoff2 F8 N8
       have em := funext hm2
       subst em
       change Fr (ghostOf s1.heap [(117, 113)]) s1.heap.objs.size _ (fun y => if y = Str.ofString "spot" then some (.int (0 + (j : Int)) tj) else if y = Str.ofString "spot" then sv2 else if y = Str.ofString "at" then some (.int (0 + (i : Int)) ti) else if y = Str.ofString "due" then some (.ref D) else if y = Str.ofString "some" then some (.ref sa) else if y = Str.ofString "others" then some (.ref oa) else if y = Str.ofString "before" then some (.ref bf) else if y = Str.ofString "one" then some (.ref x1) else if y = Str.ofString "other" then some (.ref x2) else m0 y) at F8
       change News (ghostOf s1.heap [(117, 113)]) s1.heap.objs.size _ ((J2, o2) :: (J1, o1) :: (D, listOf dvs2.toArray dn2) :: (oa, listOf ovs.toArray on) :: (sa, listOf svs.toArray sn) :: (bf, tupOf #[r1, r2] 0) :: (113, tabObj #[]) :: (ex2 ++ (tB ++ (tl1 ++ tl2)))) at N8
       clear F7 N7 R7
       obtain ⟨t2, u2, a2, b2, tn2, wy2, us2, um2, c1, c2, c3, c4, c5⟩ := w2.at2 (i := j) (by rw [← w2.len]; exact hj)
       have hdB := dueB_of p2 c2
       have upB : ∀ q ∈ tB, h8.get? q.1 = some q.2 := fun q hq => (N8 q (.tail _ (.tail _ (.tail _ (.tail _ (.tail _ (.tail _ (.tail _ (List.mem_append_right _ (List.mem_append_left _ hq)))))))))).1
       have hls1 : h8.IsList sa svs.toArray := N8.isList (.tail _ (.tail _ (.tail _ (.tail _ (.head _)))))
       have hls2 : h8.IsList oa ovs.toArray := N8.isList (.tail _ (.tail _ (.tail _ (.head _))))
       have htt1 : PyProof.Rows.IsTup h8 t1 #[.ref u1, .ref a1, .bool b1] := ⟨_, upB _ p3, rfl, _, rfl⟩
       have htt2 : PyProof.Rows.IsTup h8 t2 #[.ref u2, .ref a2, .bool b2] := ⟨_, upB _ c3, rfl, _, rfl⟩
       have hi2 : ((0 : Int) + (i : Int)).toNat = i := by exact ar283 hi
       have hj2 : ((0 : Int) + (j : Int)).toNat = j := by exact ar283 hj
       have hi3 : i < 14 := by exact ar284 hi ls1
       have hj3 : j < 14 := by exact ar284 hj ls2
       have hdl : dvs2.length < 10000 := by
         rw [hpl2.len, List.length_map, List.length_append]
         have h1 := dueL_len (k1.ways []) (k2.ways []) i
         have h2 := dueAt_len (k1.ways []) (k2.ways []) i j
         have h3 : (k2.ways []).length ≤ 14 := by rw [← w2.len]; exact ls2
         have h4 : i * (k2.ways []).length ≤ 14 * 14 := Nat.mul_le_mul (by exact ar285 hi3) h3
         exact ar286 hj3 h4 h1 h2
       have hoD : ∀ q ∈ (oa, listOf ovs.toArray on) :: (sa, listOf svs.toArray sn) :: (bf, tupOf #[r1, r2] 0) :: (113, tabObj #[]) :: (ex2 ++ (tB ++ (tl1 ++ tl2))), q.1 ≠ D := fun q hq => by
         simp only [List.mem_cons, List.mem_append] at hq
         rcases hq with h | h | h | h | h | h
         · rw [h]; exact lD' _ (.head _)
         · rw [h]; exact lD' _ (.tail _ (.head _))
         · rw [h]; exact lD' _ (.tail _ (.tail _ (.head _)))
         · rw [h]; exact lD' _ (.tail _ (.tail _ (.tail _ (.head _))))
         · exact (hex2 q h).1
         · exact lD' q (.tail _ (.tail _ (.tail _ (.tail _ (List.mem_append.mpr (h.imp id List.mem_append.mpr))))))
       have hmE : ∀ z, (if z = Str.ofString "spot" then some (Value.int (0 + (j : Int)) tj) else if z = Str.ofString "spot" then sv2 else if z = Str.ofString "at" then some (.int (0 + (i : Int)) ti) else if z = Str.ofString "due" then some (.ref D) else if z = Str.ofString "some" then some (.ref sa) else if z = Str.ofString "others" then some (.ref oa) else if z = Str.ofString "before" then some (.ref bf) else if z = Str.ofString "one" then some (.ref x1) else if z = Str.ofString "other" then some (.ref x2) else m0 z) = if z = Str.ofString "spot" then some (Value.int (0 + (j : Int)) tj) else if z = Str.ofString "at" then some (.int (0 + (i : Int)) ti) else if z = Str.ofString "due" then some (.ref D) else if z = Str.ofString "some" then some (.ref sa) else if z = Str.ofString "others" then some (.ref oa) else if z = Str.ofString "before" then some (.ref bf) else if z = Str.ofString "one" then some (.ref x1) else if z = Str.ofString "other" then some (.ref x2) else m0 z := fun z => by
         by_cases z1 : z = Str.ofString "spot"
         · rw [if_pos z1, if_pos z1]
         · rw [if_neg z1, if_neg z1, if_neg z1]
       k_with "subscriptTail" => (refine stop_here ?_)
       try k_fold
       k_steps
       refine ⟨?_⟩
       k_dflt (refine PyProof.Rows.item_list hls1 (by exact ar287) (by omega) (x := .ref t1) (by rw [hi2]; simpa using p1) ?_)
       k_steps
       refine ⟨?_⟩
       k_dflt (refine kba_turn (value' := PySem.Expr.Name (PySem.Str.ofString "_") ⟨0, 0, 0, 0⟩) (fun _ => rfl) ?_)
       k_dflt (refine PyProof.Rows.item_tuple (j := 0) (x := .ref u1) htt1 (by decide) (by decide) rfl rfl ?_)
       k_steps
       refine ⟨?_⟩
       k_dflt (refine PyProof.Rows.item_list hls2 (by exact ar287) (by omega) (x := .ref t2) (by rw [hj2]; simpa using c1) ?_)
       k_steps
       refine ⟨?_⟩
       k_dflt (refine kba_turn (value' := PySem.Expr.Name (PySem.Str.ofString "_") ⟨0, 0, 0, 0⟩) (fun _ => rfl) ?_)
       k_dflt (refine PyProof.Rows.item_tuple (j := 0) (x := .ref u2) htt2 (by decide) (by decide) rfl rfl ?_)
       k_with "compareOp Eq ref ref" => (refine stop_here ?_)
       k_steps
       refine ⟨?_⟩
       k_dflt (refine eq_ways (upB _ p4) (upB _ c4) p5 c5 (ok1 _ (List.mem_of_getElem? p2)) (ok2 _ (List.mem_of_getElem? c2)) (by exact ar289 hu) ?_)
       have mk1 : True := trivial
       k_with "newList" => (k_here; k_dflt (refine' newList_K ?k1 ?k2 ?_; (case k1 => k_asm); (case k2 => k_asm); k_whole); (first | (clear mk1; intro P1 hP1 FP1 NP1 lP1) | (intro P2 hP2 FP2 NP2 lP2)); (try k_sweep))
       k_with "newTuple" => (k_here; k_dflt (refine' kup_newTuple ?F ?N ?_ ?z; (case F => k_asm); (case N => k_asm); (case z => kmk_size)); intro TA hTA FTA NTA lTA; (try k_sweep))
       k_with "call builtin:list.append" => (refine stop_here ?_)
       k_steps
       · rename wy1 = wy2 => hw
         refine ⟨?_⟩
         k_dflt (refine PyProof.Rows.item_list hls1 (by exact ar287) (by omega) (x := .ref t1) (by rw [hi2]; simpa using p1) ?_)
         k_steps
         refine ⟨?_⟩
         k_dflt (refine kba_turn (value' := PySem.Expr.Name (PySem.Str.ofString "_") ⟨0, 0, 0, 0⟩) (fun _ => rfl) ?_)
         k_dflt (refine PyProof.Rows.item_tuple (j := 2) (x := .bool b1) htt1 (by decide) (by decide) rfl rfl ?_)
         k_steps
         · rename b1 = true => hb1
           refine ⟨?_⟩
           k_dflt (refine PyProof.Rows.item_list hls2 (by exact ar287) (by omega) (x := .ref t2) (by rw [hj2]; simpa using c1) ?_)
           k_steps
           refine ⟨?_⟩
           k_dflt (refine kba_turn (value' := PySem.Expr.Name (PySem.Str.ofString "_") ⟨0, 0, 0, 0⟩) (fun _ => rfl) ?_)
           k_dflt (refine PyProof.Rows.item_tuple (j := 2) (x := .bool b2) htt2 (by decide) (by decide) rfl rfl ?_)
           k_steps
           · rename b2 = true => hb2
             have hdN : dueB (k1.ways []) (k2.ways []) i j = false := by rw [hdB, hb1, hb2]; simp
             rename Fr _ _ _ _ => F11
             rename News _ _ _ _ => N11
             refine ⟨⟨_, _, _, (J1, o1) :: (D, listOf dvs2.toArray dn2) :: (oa, listOf ovs.toArray on) :: (sa, listOf svs.toArray sn) :: (bf, tupOf #[r1, r2] 0) :: (113, tabObj #[]) :: (ex2 ++ (tB ++ (tl1 ++ tl2))), rfl, F11, N11, hoff2, dvs2, dn2, ex2, rfl, ?_, hex2, some (.int (0 + (j : Int)) tj), hmE⟩⟩
             rw [dueAt_no hdN]
             exact hpl2
           · rename b2 = false => hb2
             have hdY : dueB (k1.ways []) (k2.ways []) i j = true := by rw [hdB, hb1, hb2, hw]; simp
             refine ⟨?_⟩
             rename Fr _ _ _ _ => F9
             rename News _ _ _ _ => N9
             have lP1 : ∀ q ∈ (J2, o2) :: (J1, o1) :: (D, listOf dvs2.toArray dn2) :: (oa, listOf ovs.toArray on) :: (sa, listOf svs.toArray sn) :: (bf, tupOf #[r1, r2] 0) :: (113, tabObj #[]) :: (ex2 ++ (tB ++ (tl1 ++ tl2))), @LT.lt Nat _ q.1 P1 := lP1
             have lP2 : ∀ q ∈ (P1, listOf #[.int (0 + (i : Int)) ti] 0) :: (J2, o2) :: (J1, o1) :: (D, listOf dvs2.toArray dn2) :: (oa, listOf ovs.toArray on) :: (sa, listOf svs.toArray sn) :: (bf, tupOf #[r1, r2] 0) :: (113, tabObj #[]) :: (ex2 ++ (tB ++ (tl1 ++ tl2))), @LT.lt Nat _ q.1 P2 := lP2
             have lTA : ∀ q ∈ (P2, listOf #[.int (0 + (j : Int)) tj] 0) :: (P1, listOf #[.int (0 + (i : Int)) ti] 0) :: (J2, o2) :: (J1, o1) :: (D, listOf dvs2.toArray dn2) :: (oa, listOf ovs.toArray on) :: (sa, listOf svs.toArray sn) :: (bf, tupOf #[r1, r2] 0) :: (113, tabObj #[]) :: (ex2 ++ (tB ++ (tl1 ++ tl2))), @LT.lt Nat _ q.1 TA := lTA
             have gt_ne : ∀ {a b : Nat}, a < b → b ≠ a := fun h e => Nat.lt_irrefl _ (e ▸ h)
             have g1 : P1 ≠ D := gt_ne (lP1 _ (.tail _ (.tail _ (.head _))))
             have g2 : P2 ≠ D := gt_ne (lP2 _ (.tail _ (.tail _ (.tail _ (.head _)))))
             have g3 : TA ≠ D := gt_ne (lTA _ (.tail _ (.tail _ (.tail _ (.tail _ (.head _))))))
             have g4 : P1 ≠ J2 := gt_ne (lP1 _ (.head _))
             have g5 : P2 ≠ J2 := gt_ne (lP2 _ (.tail _ (.head _)))
             have g6 : TA ≠ J2 := gt_ne (lTA _ (.tail _ (.tail _ (.head _))))
             have g7 : P1 ≠ J1 := gt_ne (lP1 _ (.tail _ (.head _)))
             have g8 : P2 ≠ J1 := gt_ne (lP2 _ (.tail _ (.tail _ (.head _))))
             have g9 : TA ≠ J1 := gt_ne (lTA _ (.tail _ (.tail _ (.tail _ (.head _)))))
             have tlm : ∀ q ∈ tl1 ++ tl2, q ∈ (J2, o2) :: (J1, o1) :: (D, listOf dvs2.toArray dn2) :: (oa, listOf ovs.toArray on) :: (sa, listOf svs.toArray sn) :: (bf, tupOf #[r1, r2] 0) :: (113, tabObj #[]) :: (ex2 ++ (tB ++ (tl1 ++ tl2))) := fun q hq => .tail _ (.tail _ (.tail _ (.tail _ (.tail _ (.tail _ (.tail _ (List.mem_append_right _ (List.mem_append_right _ hq))))))))
             have z1 : Off0 hT P1 := ⟨gt_ne (lP1 (113, tabObj #[]) (.tail _ (.tail _ (.tail _ (.tail _ (.tail _ (.tail _ (.head _)))))))), noT _ (N9 (P1, _) (.tail _ (.tail _ (.head _)))).2.2 fun q hq e => Nat.lt_irrefl _ (e ▸ lP1 q (tlm q hq))⟩
             have z2 : Off0 hT P2 := ⟨gt_ne (lP2 (113, tabObj #[]) (.tail _ (.tail _ (.tail _ (.tail _ (.tail _ (.tail _ (.tail _ (.head _))))))))), noT _ (N9 (P2, _) (.tail _ (.head _))).2.2 fun q hq e => Nat.lt_irrefl _ (e ▸ lP2 q (.tail _ (tlm q hq)))⟩
             have z3 : Off0 hT TA := ⟨gt_ne (lTA (113, tabObj #[]) (.tail _ (.tail _ (.tail _ (.tail _ (.tail _ (.tail _ (.tail _ (.tail _ (.head _)))))))))), noT _ (N9 (TA, _) (.head _)).2.2 fun q hq e => Nat.lt_irrefl _ (e ▸ lTA q (.tail _ (.tail _ (tlm q hq))))⟩
             refine due_app (dvs := dvs2) F9 N9 ?_ hdl ?_
             · intro q hq
               rcases List.mem_cons.mp hq with h | hq
               · rw [h]; exact g3
               rcases List.mem_cons.mp hq with h | hq
               · rw [h]; exact g2
               rcases List.mem_cons.mp hq with h | hq
               · rw [h]; exact g1
               rcases List.mem_cons.mp hq with h | hq
               · rw [h]; exact (hoff2 _ (.tail _ (.head _))).symm
               rcases List.mem_cons.mp hq with h | hq
               · rw [h]; exact hoffD
               exact hoD q hq
             intro h9 F10 N10
             clear F9 N9
             k_steps
             rename Fr _ _ _ _ => F11
             rename News _ _ _ _ => N11
             refine ⟨⟨_, _, _, (J1, o1) :: (D, listOf (dvs2 ++ [Value.ref TA]).toArray (dn2 + 1)) :: (oa, listOf ovs.toArray on) :: (sa, listOf svs.toArray sn) :: (bf, tupOf #[r1, r2] 0) :: (113, tabObj #[]) :: (((TA, tupOf #[.ref P1, .ref P2] 0) :: (P2, listOf #[.int (0 + (j : Int)) tj] 0) :: (P1, listOf #[.int (0 + (i : Int)) ti] 0) :: ex2) ++ (tB ++ (tl1 ++ tl2))), rfl, F11, News.sub N11 fun q hq => ?_, fun q hq => ?_, dvs2 ++ [Value.ref TA], dn2 + 1, (TA, tupOf #[.ref P1, .ref P2] 0) :: (P2, listOf #[.int (0 + (j : Int)) tj] 0) :: (P1, listOf #[.int (0 + (i : Int)) ti] 0) :: ex2, rfl, ?_, fun q hq => ?_, some (.int (0 + (j : Int)) tj), hmE⟩⟩
             · exact (by walk_at "mine subs" : ∀ z ∈ _, z ∈ _) q hq
             · rcases List.mem_cons.mp hq with h | hq
               · rw [h]; exact hoff2 _ (.head _)
               rcases List.mem_cons.mp hq with h | hq
               · rw [h]; exact hoff2 (D, listOf dvs2.toArray dn2) (.tail _ (.head _))
               rcases List.mem_cons.mp hq with h | hq
               · rw [h]; exact hoff2 _ (.tail _ (.tail _ (.head _)))
               rcases List.mem_cons.mp hq with h | hq
               · rw [h]; exact hoff2 _ (.tail _ (.tail _ (.tail _ (.head _))))
               rcases List.mem_cons.mp hq with h | hq
               · rw [h]; exact hoff2 _ (.tail _ (.tail _ (.tail _ (.tail _ (.head _)))))
               rcases List.mem_cons.mp hq with h | hq
               · rw [h]; exact hoff2 _ (.tail _ (.tail _ (.tail _ (.tail _ (.tail _ (.head _))))))
               rcases List.mem_cons.mp hq with h | hq
               · rw [h]; exact g6
               rcases List.mem_cons.mp hq with h | hq
               · rw [h]; exact g5
               rcases List.mem_cons.mp hq with h | hq
               · rw [h]; exact g4
               exact hoff2 q (.tail _ (.tail _ (.tail _ (.tail _ (.tail _ (.tail _ hq))))))
             · rw [dueAt_yes hdY, ← List.append_assoc]
               exact place_snoc hpl2
             · rcases List.mem_cons.mp hq with h | hq
               · rw [h]; exact ⟨g3, z3, fun p hp => by rw [List.mem_singleton.mp hp]; exact g9⟩
               rcases List.mem_cons.mp hq with h | hq
               · rw [h]; exact ⟨g2, z2, fun p hp => by rw [List.mem_singleton.mp hp]; exact g8⟩
               rcases List.mem_cons.mp hq with h | hq
               · rw [h]; exact ⟨g1, z1, fun p hp => by rw [List.mem_singleton.mp hp]; exact g7⟩
               exact hex2 q hq
         · rename b1 = false => hb1
           have hdY : dueB (k1.ways []) (k2.ways []) i j = true := by rw [hdB, hb1, hw]; simp
           refine ⟨?_⟩
           rename Fr _ _ _ _ => F9
           rename News _ _ _ _ => N9
           have lP1 : ∀ q ∈ (J2, o2) :: (J1, o1) :: (D, listOf dvs2.toArray dn2) :: (oa, listOf ovs.toArray on) :: (sa, listOf svs.toArray sn) :: (bf, tupOf #[r1, r2] 0) :: (113, tabObj #[]) :: (ex2 ++ (tB ++ (tl1 ++ tl2))), @LT.lt Nat _ q.1 P1 := lP1
           have lP2 : ∀ q ∈ (P1, listOf #[.int (0 + (i : Int)) ti] 0) :: (J2, o2) :: (J1, o1) :: (D, listOf dvs2.toArray dn2) :: (oa, listOf ovs.toArray on) :: (sa, listOf svs.toArray sn) :: (bf, tupOf #[r1, r2] 0) :: (113, tabObj #[]) :: (ex2 ++ (tB ++ (tl1 ++ tl2))), @LT.lt Nat _ q.1 P2 := lP2
           have lTA : ∀ q ∈ (P2, listOf #[.int (0 + (j : Int)) tj] 0) :: (P1, listOf #[.int (0 + (i : Int)) ti] 0) :: (J2, o2) :: (J1, o1) :: (D, listOf dvs2.toArray dn2) :: (oa, listOf ovs.toArray on) :: (sa, listOf svs.toArray sn) :: (bf, tupOf #[r1, r2] 0) :: (113, tabObj #[]) :: (ex2 ++ (tB ++ (tl1 ++ tl2))), @LT.lt Nat _ q.1 TA := lTA
           have gt_ne : ∀ {a b : Nat}, a < b → b ≠ a := fun h e => Nat.lt_irrefl _ (e ▸ h)
           have g1 : P1 ≠ D := gt_ne (lP1 _ (.tail _ (.tail _ (.head _))))
           have g2 : P2 ≠ D := gt_ne (lP2 _ (.tail _ (.tail _ (.tail _ (.head _)))))
           have g3 : TA ≠ D := gt_ne (lTA _ (.tail _ (.tail _ (.tail _ (.tail _ (.head _))))))
           have g4 : P1 ≠ J2 := gt_ne (lP1 _ (.head _))
           have g5 : P2 ≠ J2 := gt_ne (lP2 _ (.tail _ (.head _)))
           have g6 : TA ≠ J2 := gt_ne (lTA _ (.tail _ (.tail _ (.head _))))
           have g7 : P1 ≠ J1 := gt_ne (lP1 _ (.tail _ (.head _)))
           have g8 : P2 ≠ J1 := gt_ne (lP2 _ (.tail _ (.tail _ (.head _))))
           have g9 : TA ≠ J1 := gt_ne (lTA _ (.tail _ (.tail _ (.tail _ (.head _)))))
           have tlm : ∀ q ∈ tl1 ++ tl2, q ∈ (J2, o2) :: (J1, o1) :: (D, listOf dvs2.toArray dn2) :: (oa, listOf ovs.toArray on) :: (sa, listOf svs.toArray sn) :: (bf, tupOf #[r1, r2] 0) :: (113, tabObj #[]) :: (ex2 ++ (tB ++ (tl1 ++ tl2))) := fun q hq => .tail _ (.tail _ (.tail _ (.tail _ (.tail _ (.tail _ (.tail _ (List.mem_append_right _ (List.mem_append_right _ hq))))))))
           have z1 : Off0 hT P1 := ⟨gt_ne (lP1 (113, tabObj #[]) (.tail _ (.tail _ (.tail _ (.tail _ (.tail _ (.tail _ (.head _)))))))), noT _ (N9 (P1, _) (.tail _ (.tail _ (.head _)))).2.2 fun q hq e => Nat.lt_irrefl _ (e ▸ lP1 q (tlm q hq))⟩
           have z2 : Off0 hT P2 := ⟨gt_ne (lP2 (113, tabObj #[]) (.tail _ (.tail _ (.tail _ (.tail _ (.tail _ (.tail _ (.tail _ (.head _))))))))), noT _ (N9 (P2, _) (.tail _ (.head _))).2.2 fun q hq e => Nat.lt_irrefl _ (e ▸ lP2 q (.tail _ (tlm q hq)))⟩
           have z3 : Off0 hT TA := ⟨gt_ne (lTA (113, tabObj #[]) (.tail _ (.tail _ (.tail _ (.tail _ (.tail _ (.tail _ (.tail _ (.tail _ (.head _)))))))))), noT _ (N9 (TA, _) (.head _)).2.2 fun q hq e => Nat.lt_irrefl _ (e ▸ lTA q (.tail _ (.tail _ (tlm q hq))))⟩
           refine due_app (dvs := dvs2) F9 N9 ?_ hdl ?_
           · intro q hq
             rcases List.mem_cons.mp hq with h | hq
             · rw [h]; exact g3
             rcases List.mem_cons.mp hq with h | hq
             · rw [h]; exact g2
             rcases List.mem_cons.mp hq with h | hq
             · rw [h]; exact g1
             rcases List.mem_cons.mp hq with h | hq
             · rw [h]; exact (hoff2 _ (.tail _ (.head _))).symm
             rcases List.mem_cons.mp hq with h | hq
             · rw [h]; exact hoffD
             exact hoD q hq
           intro h9 F10 N10
           clear F9 N9
           k_steps
           rename Fr _ _ _ _ => F11
           rename News _ _ _ _ => N11
           refine ⟨⟨_, _, _, (J1, o1) :: (D, listOf (dvs2 ++ [Value.ref TA]).toArray (dn2 + 1)) :: (oa, listOf ovs.toArray on) :: (sa, listOf svs.toArray sn) :: (bf, tupOf #[r1, r2] 0) :: (113, tabObj #[]) :: (((TA, tupOf #[.ref P1, .ref P2] 0) :: (P2, listOf #[.int (0 + (j : Int)) tj] 0) :: (P1, listOf #[.int (0 + (i : Int)) ti] 0) :: ex2) ++ (tB ++ (tl1 ++ tl2))), rfl, F11, News.sub N11 fun q hq => ?_, fun q hq => ?_, dvs2 ++ [Value.ref TA], dn2 + 1, (TA, tupOf #[.ref P1, .ref P2] 0) :: (P2, listOf #[.int (0 + (j : Int)) tj] 0) :: (P1, listOf #[.int (0 + (i : Int)) ti] 0) :: ex2, rfl, ?_, fun q hq => ?_, some (.int (0 + (j : Int)) tj), hmE⟩⟩
           · exact (by walk_at "mine subs" : ∀ z ∈ _, z ∈ _) q hq
           · rcases List.mem_cons.mp hq with h | hq
             · rw [h]; exact hoff2 _ (.head _)
             rcases List.mem_cons.mp hq with h | hq
             · rw [h]; exact hoff2 (D, listOf dvs2.toArray dn2) (.tail _ (.head _))
             rcases List.mem_cons.mp hq with h | hq
             · rw [h]; exact hoff2 _ (.tail _ (.tail _ (.head _)))
             rcases List.mem_cons.mp hq with h | hq
             · rw [h]; exact hoff2 _ (.tail _ (.tail _ (.tail _ (.head _))))
             rcases List.mem_cons.mp hq with h | hq
             · rw [h]; exact hoff2 _ (.tail _ (.tail _ (.tail _ (.tail _ (.head _)))))
             rcases List.mem_cons.mp hq with h | hq
             · rw [h]; exact hoff2 _ (.tail _ (.tail _ (.tail _ (.tail _ (.tail _ (.head _))))))
             rcases List.mem_cons.mp hq with h | hq
             · rw [h]; exact g6
             rcases List.mem_cons.mp hq with h | hq
             · rw [h]; exact g5
             rcases List.mem_cons.mp hq with h | hq
             · rw [h]; exact g4
             exact hoff2 q (.tail _ (.tail _ (.tail _ (.tail _ (.tail _ (.tail _ hq))))))
           · rw [dueAt_yes hdY, ← List.append_assoc]
             exact place_snoc hpl2
           · rcases List.mem_cons.mp hq with h | hq
             · rw [h]; exact ⟨g3, z3, fun p hp => by rw [List.mem_singleton.mp hp]; exact g9⟩
             rcases List.mem_cons.mp hq with h | hq
             · rw [h]; exact ⟨g2, z2, fun p hp => by rw [List.mem_singleton.mp hp]; exact g8⟩
             rcases List.mem_cons.mp hq with h | hq
             · rw [h]; exact ⟨g1, z1, fun p hp => by rw [List.mem_singleton.mp hp]; exact g7⟩
             exact hex2 q hq
       · rename ¬wy1 = wy2 => hw
         have hdN : dueB (k1.ways []) (k2.ways []) i j = false := by rw [hdB, decide_eq_false hw]; rfl
         rename Fr _ _ _ _ => F11
         rename News _ _ _ _ => N11
         refine ⟨⟨_, _, _, (J1, o1) :: (D, listOf dvs2.toArray dn2) :: (oa, listOf ovs.toArray on) :: (sa, listOf svs.toArray sn) :: (bf, tupOf #[r1, r2] 0) :: (113, tabObj #[]) :: (ex2 ++ (tB ++ (tl1 ++ tl2))), rfl, F11, N11, hoff2, dvs2, dn2, ex2, rfl, ?_, hex2, some (.int (0 + (j : Int)) tj), hmE⟩⟩
         rw [dueAt_no hdN]
         exact hpl2
     · rintro m₂ news₂ h8 tk8 ⟨dvs2, dn2, ex2, rfl, hpl2, hex2, sv2, hm2⟩ F8 N8
       have em := funext hm2
       subst em
       change Fr (ghostOf s1.heap [(117, 113)]) s1.heap.objs.size _ _ at F8
       change News (ghostOf s1.heap [(117, 113)]) s1.heap.objs.size _ ((J1, o1) :: (D, listOf dvs2.toArray dn2) :: (oa, listOf ovs.toArray on) :: (sa, listOf svs.toArray sn) :: (bf, tupOf #[r1, r2] 0) :: (113, tabObj #[]) :: (ex2 ++ (tB ++ (tl1 ++ tl2)))) at N8
       clear F7 N7
       try k_fold
       k_steps
       rename Fr _ _ _ _ => Fz
       rename News _ _ _ _ => Nz
       have en : ((ovs.length : Int)).toNat = (k2.ways []).length := by rw [Int.toNat_natCast]; exact w2.len
       rw [en, ← dueL_succ] at hpl2
       refine ⟨⟨_, _, _, (D, listOf dvs2.toArray dn2) :: (oa, listOf ovs.toArray on) :: (sa, listOf svs.toArray sn) :: (bf, tupOf #[r1, r2] 0) :: (113, tabObj #[]) :: (ex2 ++ (tB ++ (tl1 ++ tl2))), rfl, Fz, Nz, fun q hq => ?_, _, dvs2, dn2, ex2, rfl, hpl2, fun q hq => ⟨(hex2 q hq).1, (hex2 q hq).2.1, fun _ h => nomatch h⟩, sv2, fun z => rfl⟩⟩
       rcases List.mem_cons.mp hq with h | hq
       · rw [h]; exact hoff (D, listOf dvs.toArray dn) (.head _)
       rcases List.mem_cons.mp hq with h | hq
       · rw [h]; exact hoff _ (.tail _ (.head _))
       rcases List.mem_cons.mp hq with h | hq
       · rw [h]; exact hoff _ (.tail _ (.tail _ (.head _)))
       rcases List.mem_cons.mp hq with h | hq
       · rw [h]; exact hoff _ (.tail _ (.tail _ (.tail _ (.head _))))
       rcases List.mem_cons.mp hq with h | hq
       · rw [h]; exact hoff _ (.tail _ (.tail _ (.tail _ (.tail _ (.head _)))))
       rcases List.mem_append.mp hq with hq | hq
       · exact (hex2 q hq).2.2 _ (.head _)
       · exact hoff q (.tail _ (.tail _ (.tail _ (.tail _ (.tail _ (List.mem_append_right _ hq))))))
   · rintro m₁ news₁ h6 tk6 ⟨av, dvs, dn, ex, rfl, hpl, hex, sv, hm⟩ F6 N6
     have em := funext hm
     subst em
     change Fr (ghostOf s1.heap [(117, 113)]) s1.heap.objs.size _ _ at F6
     change News (ghostOf s1.heap [(117, 113)]) s1.heap.objs.size _ ((D, listOf dvs.toArray dn) :: (oa, listOf ovs.toArray on) :: (sa, listOf svs.toArray sn) :: (bf, tupOf #[r1, r2] 0) :: (113, tabObj #[]) :: (ex ++ (tB ++ (tl1 ++ tl2)))) at N6
     clear F5 N5
     have en : ((svs.length : Int)).toNat = (k1.ways []).length := by rw [Int.toNat_natCast]; exact w1.len
     rw [en] at hpl
     try k_fold
     k_steps
     rename Fr _ _ _ _ => Fz
     rename News _ _ _ _ => Nz
     have emz : (fun z => if z = Str.ofString "spot" then sv else if z = Str.ofString "at" then av else if z = Str.ofString "due" then some (.ref D) else if z = Str.ofString "some" then some (.ref sa) else if z = Str.ofString "others" then some (.ref oa) else if z = Str.ofString "before" then some (.ref bf) else if z = Str.ofString "one" then some (.ref x1) else if z = Str.ofString "other" then some (.ref x2) else m0 z) = (fun z => if z = Str.ofString "due" then some (Value.ref D) else if z = Str.ofString "some" then some (.ref sa) else if z = Str.ofString "others" then some (.ref oa) else if z = Str.ofString "before" then some (.ref bf) else if z = Str.ofString "one" then some (.ref x1) else if z = Str.ofString "other" then some (.ref x2) else (if z = Str.ofString "spot" then sv else if z = Str.ofString "at" then av else m0 z)) := by
       funext z
       by_cases z1 : z = Str.ofString "spot"
       · subst z1; with_unfolding_all rfl
       · by_cases z2 : z = Str.ofString "at"
         · subst z2; with_unfolding_all rfl
         · simp only [if_neg z1, if_neg z2]
     have Fz : Fr (ghostOf s1.heap [(117, 113)]) s1.heap.objs.size _ (fun z => if z = Str.ofString "due" then some (Value.ref D) else if z = Str.ofString "some" then some (.ref sa) else if z = Str.ofString "others" then some (.ref oa) else if z = Str.ofString "before" then some (.ref bf) else if z = Str.ofString "one" then some (.ref x1) else if z = Str.ofString "other" then some (.ref x2) else (if z = Str.ofString "spot" then sv else if z = Str.ofString "at" then av else m0 z)) := emz ▸ Fz
     refine ⟨⟨_, _, D, bf, sa, oa, dvs, svs, ovs, dn, sn, on, r1, r2, ex ++ tB, _, rfl, Fz, News.sub Nz fun q hq => ?_, rd1.mono fun q hq => List.mem_append_right _ hq, rd2.mono fun q hq => List.mem_append_right _ hq, w1.mono fun q hq => List.mem_append_right _ hq, w2.mono fun q hq => List.mem_append_right _ hq, hpl.mono fun q hq => List.mem_append_left _ hq, fun q hq => ?_⟩⟩
     · rw [List.append_assoc] at hq; exact hq
     · rcases List.mem_cons.mp hq with h | hq
       · rw [h]; exact ⟨(lD' (113, tabObj #[]) (.tail _ (.tail _ (.tail _ (.head _))))).symm, noT _ (Nz _ (.head _)).2.2 fun q hq => lD' q (.tail _ (.tail _ (.tail _ (.tail _ (List.mem_append_right _ hq)))))⟩
       rcases List.mem_cons.mp hq with h | hq
       · rw [h]; exact nB _ (.head _)
       rcases List.mem_cons.mp hq with h | hq
       · rw [h]; exact nB _ (.tail _ (.head _))
       rcases List.mem_cons.mp hq with h | hq
       · rw [h]; exact nB _ (.tail _ (.tail _ (.head _)))
       rcases List.mem_append.mp hq with hq | hq
       · exact (hex q hq).2.1
       · exact nB q (.tail _ (.tail _ (.tail _ hq)))
  clear F4 N4 rd1 rd2 w1 w2 nB ls1 ls2
  rintro s' ⟨h5, tk5, D, bf, sa, oa, dvs, svs, ovs, dn, sn, on, r1, r2, tB, m0, rfl, F5, N5, rd1, rd2, w1, w2, hpl, nB⟩
  refine execs_cutN (Mid6 (ghostOf s1.heap [(117, 113)]) s1.heap.objs.size s1 x1 x2 k1 k2 hT (tl1 ++ tl2) D1 D2) 1 ?_ ?_
  case refine_1 =>
    dsimp only [List.drop, List.take]
    k_with_none
    k_with "call ref" => ((with_reducible show wpAny _ _ (call (Value.ref 137) _ _) _ _ _); refine stop_here ?_)
    try k_fold
    k_steps
    refine ⟨?_⟩
    rename Fr _ _ _ _ => F6
    rename News _ _ _ _ => N6
    refine Does.use (ws := [(113, tabObj #[])]) (rest := (D, listOf dvs.toArray dn) :: (oa, listOf ovs.toArray on) :: (sa, listOf svs.toArray sn) :: (bf, tupOf #[r1, r2] 0) :: (tB ++ (tl1 ++ tl2))) (alike_ 3 (tb := [(113, tabObj #[])]) (X0.keeps S0) (T0.keeps S0) (upT _ F6.keep fun q hq => (N6 q (.tail _ (.tail _ (.tail _ (.tail _ (.tail _ (List.mem_append_right _ hq))))))).1) IR1 IR2 R1.bd R2.bd (by decide) (by decide) (by decide) (CH.keeps S0) (by rw [hdp]; decide) hh (by exact ar278 hu) (.inl rfl) (fun q hq => ?_)) F6 (News.sub N6 fun q hq => ?_) (fun a ha => ⟨tabObj #[], by rw [List.mem_singleton.mp ha]; exact .head _⟩) (fun q hq hm => ?_) ?_
    · rw [List.mem_singleton.mp hq]
      exact ⟨(N6 (113, tabObj #[]) (.tail _ (.tail _ (.tail _ (.tail _ (.head _)))))).1, h113⟩
    · exact (by walk_at "mine subs" : ∀ z ∈ _, z ∈ _) q hq
    · have e : q.1 = 113 := List.mem_singleton.mp hm
      simp only [List.mem_cons, List.mem_append] at hq
      rcases hq with h | h | h | h | h | h | h
      · exact (nB q (by rw [h]; exact .head _)).1 e
      · exact (nB q (by rw [h]; exact .tail _ (.head _))).1 e
      · exact (nB q (by rw [h]; exact .tail _ (.tail _ (.head _)))).1 e
      · exact (nB q (by rw [h]; exact .tail _ (.tail _ (.tail _ (.head _))))).1 e
      · exact (nB q (.tail _ (.tail _ (.tail _ (.tail _ h))))).1 e
      · exact nt q (List.mem_append_left _ h) e
      · exact nt q (List.mem_append_right _ h) e
    rintro r h7 tk7 tl7 F7 N7 off7 ⟨pa, pn, pvs, tb, ex, rfl, rfl, hTS, hps, hex⟩
    have N7 : News (ghostOf s1.heap [(117, 113)]) s1.heap.objs.size h7 ((pa, listOf pvs.toArray pn) :: (D, listOf dvs.toArray dn) :: (oa, listOf ovs.toArray on) :: (sa, listOf svs.toArray sn) :: (bf, tupOf #[r1, r2] 0) :: (tb ++ ((ex ++ tB) ++ (tl1 ++ tl2)))) := News.sub N7 fun q hq => by
      exact (by walk_at "mine subs" : ∀ z ∈ _, z ∈ _) q hq
    clear F6 N6
    try dsimp only
    try k_fold
    k_steps
    rename Fr _ _ _ _ => Fz
    rename News _ _ _ _ => Nz
    have h113t : ∀ q ∈ (D, listOf dvs.toArray dn) :: (oa, listOf ovs.toArray on) :: (sa, listOf svs.toArray sn) :: (bf, tupOf #[r1, r2] 0) :: (tB ++ (tl1 ++ tl2)), q.1 ≠ 113 := fun q hq e => by
      simp only [List.mem_cons, List.mem_append] at hq
      rcases hq with h | h | h | h | h | h | h
      · exact (nB q (by rw [h]; exact .head _)).1 e
      · exact (nB q (by rw [h]; exact .tail _ (.head _))).1 e
      · exact (nB q (by rw [h]; exact .tail _ (.tail _ (.head _)))).1 e
      · exact (nB q (by rw [h]; exact .tail _ (.tail _ (.tail _ (.head _))))).1 e
      · exact (nB q (.tail _ (.tail _ (.tail _ (.tail _ h))))).1 e
      · exact nt q (List.mem_append_left _ h) e
      · exact nt q (List.mem_append_right _ h) e
    have oT : ∀ q ∈ (pa, listOf pvs.toArray pn) :: (tb ++ ex), hT.get? q.1 = none := fun q hq => by
      rcases off7 q hq with z | z
      · rw [List.mem_singleton.mp z]; exact h113
      · refine noT _ (Nz q ?_).2.2 fun p hp => z p (List.mem_append_right _ (.tail _ (.tail _ (.tail _ (.tail _ (List.mem_append_right _ hp))))))
        exact (by walk_at "mine subs" : ∀ z ∈ _, z ∈ _) q hq
    refine ⟨⟨_, _, pa, D, bf, sa, oa, pvs, dvs, svs, ovs, pn, dn, sn, on, r1, r2, ex ++ tB, tb, _, rfl, Fz, Nz, rd1.mono fun q hq => List.mem_append_right _ hq, rd2.mono fun q hq => List.mem_append_right _ hq, w1.mono fun q hq => List.mem_append_right _ hq, w2.mono fun q hq => List.mem_append_right _ hq, hpl.mono fun q hq => List.mem_append_right _ hq, hps.mono fun q hq => List.mem_append_left _ hq, hTS.1, fun q hq hm => ?_, fun q hq => ?_⟩⟩
    · by_cases hx : q ∈ ex
      · obtain ⟨its, nn, ho⟩ := hex q hx
        have ho' : q = (q.1, tupOf its nn) := Prod.ext rfl ho
        refine tabS_off (D := q.1) (o := tupOf its nn) (its := its) (dn := nn) (TabS.refl hTS.1) Nz ?_ rfl (fun q hq => ?_) hm
        · rw [← ho']
          exact .tail _ (.tail _ (.tail _ (.tail _ (.tail _ (List.mem_append_right _ (List.mem_append_left _ (List.mem_append_left _ hx)))))))
        · exact .tail _ (.tail _ (.tail _ (.tail _ (.tail _ (List.mem_append_left _ hq)))))
      · have hq' : q ∈ (D, listOf dvs.toArray dn) :: (oa, listOf ovs.toArray on) :: (sa, listOf svs.toArray sn) :: (bf, tupOf #[r1, r2] 0) :: (tB ++ (tl1 ++ tl2)) := by
          simp only [List.mem_cons, List.mem_append] at hq ⊢
          rcases hq with h | h | h | h | (h | h) | h
          · simp only [h, true_or, or_true]
          · simp only [h, true_or, or_true]
          · simp only [h, true_or, or_true]
          · simp only [h, true_or, or_true]
          · exact absurd h hx
          · simp only [h, true_or, or_true]
          · simp only [h, or_true]
        obtain ⟨z, hz, e⟩ := List.mem_map.mp hm
        rcases off7 z (.tail _ (List.mem_append_left _ hz)) with y | y
        · exact h113t q hq' (e ▸ List.mem_singleton.mp y)
        · exact y q (List.mem_append_right _ hq') e.symm
    · rcases List.mem_cons.mp hq with h | hq
      · rw [h]; exact oT _ (.head _)
      rcases List.mem_cons.mp hq with h | hq
      · rw [h]; exact (nB _ (.head _)).2
      rcases List.mem_cons.mp hq with h | hq
      · rw [h]; exact (nB _ (.tail _ (.head _))).2
      rcases List.mem_cons.mp hq with h | hq
      · rw [h]; exact (nB _ (.tail _ (.tail _ (.head _)))).2
      rcases List.mem_cons.mp hq with h | hq
      · rw [h]; exact (nB _ (.tail _ (.tail _ (.tail _ (.head _))))).2
      rcases List.mem_append.mp hq with hq | hq
      · exact oT q (.tail _ (List.mem_append_left _ hq))
      rcases List.mem_append.mp hq with hq | hq
      · exact oT q (.tail _ (List.mem_append_right _ hq))
      · exact (nB q (.tail _ (.tail _ (.tail _ (.tail _ hq))))).2
  clear F5 N5 rd1 rd2 w1 w2 hpl nB
  rintro s' ⟨h6, tk6, pa, D, bf, sa, oa, pvs, dvs, svs, ovs, pn, dn, sn, on, r1, r2, tB, tb, m0, rfl, F6, N6, rd1, rd2, w1, w2, hpl, hps, hTb, nTb, nT⟩
  have hW1 : ((k1.ways []).map (·.2.1)).Nodup := (List.nodup_cons.mp R1.nd).2.sublist (ways_addr k1 [])
  have hW2 : ((k2.ways []).map (·.2.1)).Nodup := (List.nodup_cons.mp R2.nd).2.sublist (ways_addr k2 [])
  have lW1 : (k1.ways []).length ≤ 14 := ways_len R1.bd R1.two
  have lW2 : (k2.ways []).length ≤ 14 := ways_len R2.bd R2.two
  have iW1 : ∀ q ∈ k1.ways [], IsItem hT q.2.1 := ways_item K1k []
  have iW2 : ∀ q ∈ k2.ways [], IsItem hT q.2.1 := ways_item K2k []
  refine execs_cutN (Mid7 (ghostOf s1.heap [(117, 113)]) s1.heap.objs.size s1 x1 x2 k1 k2 hT (tl1 ++ tl2) D1 D2) 1 ?_ ?_
  case refine_1 =>
    dsimp only [List.drop, List.take]
    k_with_none
    k_with "call ref" => ((with_reducible show wpAny _ _ (call (Value.ref 168) _ _) _ _ _); refine stop_here ?_)
    try k_fold
    k_steps
    refine ⟨?_⟩
    rename Fr _ _ _ _ => F7
    rename News _ _ _ _ => N7
    have pD := alike_due 3 k1 k2 [] R1.bd R2.bd
    obtain ⟨qs, hqs, hpq, hnd, hsm, hq64⟩ := places_due hW1 hW2 lW1 lW2 pD (alike_len R1.bd R2.bd R1.two R2.two)
    have lD64 : (dueL (k1.ways []) (k2.ways []) (k1.ways []).length).length ≤ 64 := by rw [hpq.length_eq]; exact hq64
    have ips : ∀ q ∈ alike 3 k1 k2, IsItem hT q.1 ∧ IsItem hT q.2 := fun q hq => dueW_item iW1 iW2 q (pD.mem_iff.mp hq)
    have hal : (alike 3 k1 k2).length ≤ 4 ^ 3 := alike_len R1.bd R2.bd R1.two R2.two
    obtain ⟨H, hHe⟩ : ∃ H, H = (pa, listOf pvs.toArray pn) :: (D, listOf dvs.toArray dn) :: (oa, listOf ovs.toArray on) :: (sa, listOf svs.toArray sn) :: (bf, tupOf #[r1, r2] 0) :: (tb ++ tB) := ⟨_, rfl⟩
    have N8 : News (ghostOf s1.heap [(117, 113)]) s1.heap.objs.size h6 (H ++ (tl1 ++ tl2)) := News.sub N7 fun q hq => by
      rw [hHe] at hq
      exact (by walk_at "mine subs" : ∀ z ∈ _, z ∈ _) q hq
    have sB : ∀ q ∈ tB, q ∈ H := fun q hq => by rw [hHe]; exact .tail _ (.tail _ (.tail _ (.tail _ (.tail _ (List.mem_append_right _ hq)))))
    have mpa : (pa, listOf pvs.toArray pn) ∈ H := by rw [hHe]; exact .head _
    have mD : (D, listOf dvs.toArray dn) ∈ H := by rw [hHe]; exact .tail _ (.head _)
    have moa : (oa, listOf ovs.toArray on) ∈ H := by rw [hHe]; exact .tail _ (.tail _ (.head _))
    have msa : (sa, listOf svs.toArray sn) ∈ H := by rw [hHe]; exact .tail _ (.tail _ (.tail _ (.head _)))
    have nH : ∀ q ∈ H, hT.get? q.1 = none := fun q hq => nT q (hHe ▸ hq)
    refine Does.use (ws := H) (rest := tl1 ++ tl2) (places_ (s := { s1 with heap := h6, toks := _ }) (X0.keeps S0) (T0.keeps S0) (upT h6 F7.keep fun q hq => (N8 q (List.mem_append_right _ hq)).1) (fun q hq => ⟨(N8 q (List.mem_append_left _ hq)).1, nH q hq⟩) mpa msa moa (hps.mono sB) (w1.mono sB) (w2.mono sB) ips iW1 iW2 ⟨by rw [w1.len]; exact ar290 lW1, by rw [w2.len]; exact ar290 lW2⟩ (by omega) hqs hnd hsm hq64 (by exact ar289 hu) (by rw [hdp]; decide) hh) F7 N8 (fun a ha => ?_) (fun q hq hm => ?_) ?_
    · obtain ⟨z, hz, e⟩ := List.mem_map.mp ha
      exact ⟨z.2, e ▸ hz⟩
    · obtain ⟨z, hz, e⟩ := List.mem_map.mp hm
      have e1 := tT q hq
      rw [← e, nH z hz] at e1
      cases e1
    rintro r h8 tk8 tl8 F8 N9 off8 ⟨P, pn2, out, exP, rfl, rfl, hout⟩
    clear off8 F7 N7 N8
    k_with_none
    k_with "call builtin:sorted" => (refine stop_here ?_)
    try dsimp only
    try k_fold
    k_steps
    refine ⟨?_⟩
    rename Fr _ _ _ _ => F10
    rename News _ _ _ _ => N10
    have srt := dueL_sorted (k1.ways []) (k2.ways []) (k1.ways []).length
    refine sorted_c (vs := dvs) (n := dn) (Out := SortedP tB (dueL (k1.ways []) (k2.ways []) (k1.ways []).length)) F10 N10 (List.mem_append_left _ (.tail _ (List.mem_append_right _ mD))) ?_ (fun h2 => ⟨_, .refl _, srt, hpl⟩) (fun h2 h' F' N' => sort_places hpl (fun q hq => (N' q (List.mem_append_left _ (.tail _ (List.mem_append_right _ (sB q hq))))).1) (lex_nodup srt) (dueL_small (by exact ar290 lW1) (by exact ar290 lW2)) lD64 ?_ ?_) ?_
    · rw [hpl.len, List.length_map]; exact lD64
    · rw [hpl.len, List.length_map] at h2; exact h2
    · show A.units + 1 + 1 + 64 < 9900; exact ar292 hu
    intro D2 out2 h11 c11 hout2 F11 N11 lD2
    clear F10 N10 lD2
    have pl1 := sortedP_due srt hpq hout
    have pl2 := sortedP_due srt (.refl _) hout2
    k_with_none
    k_with "compareOp NotEq ref ref" => (refine stop_here ?_)
    try dsimp only
    try k_fold
    k_steps
    refine ⟨?_⟩
    rename Fr _ _ _ _ => F12
    rename News _ _ _ _ => N12
    have m2 : ∀ q ∈ exP ++ H, q ∈ (D2, listOf out2.toArray c11) :: ((P, listOf out.toArray pn2) :: (exP ++ H) ++ (tl1 ++ tl2)) := fun q hq => .tail _ (List.mem_append_left _ (.tail _ hq))
    refine ne_places (N12 (P, listOf out.toArray pn2) (.tail _ (List.mem_append_left _ (.head _)))).1 (N12 (D2, listOf out2.toArray c11) (.head _)).1 pl1 (fun q hq => (N12 q (m2 q (List.mem_append_left _ hq))).1) pl2 (fun q hq => (N12 q (m2 q (List.mem_append_right _ (sB q hq)))).1) (by exact ar289 hu) ?_
    k_steps
    rename Fr _ _ _ _ => Fz
    rename News _ _ _ _ => Nz
    have emz : (fun z => if z = Str.ofString "pairs" then some (Value.ref pa) else if z = Str.ofString "due" then some (Value.ref D) else if z = Str.ofString "some" then some (.ref sa) else if z = Str.ofString "others" then some (.ref oa) else if z = Str.ofString "before" then some (.ref bf) else if z = Str.ofString "one" then some (.ref x1) else if z = Str.ofString "other" then some (.ref x2) else m0 z) = (fun z => if z = Str.ofString "due" then some (Value.ref D) else if z = Str.ofString "some" then some (.ref sa) else if z = Str.ofString "others" then some (.ref oa) else if z = Str.ofString "before" then some (.ref bf) else if z = Str.ofString "one" then some (.ref x1) else if z = Str.ofString "other" then some (.ref x2) else (if z = Str.ofString "pairs" then some (Value.ref pa) else m0 z)) := by
      funext z
      by_cases z1 : z = Str.ofString "pairs"
      · subst z1; with_unfolding_all rfl
      · simp only [if_neg z1]
    have Fz : Fr (ghostOf s1.heap [(117, 113)]) s1.heap.objs.size _ (fun z => if z = Str.ofString "due" then some (Value.ref D) else if z = Str.ofString "some" then some (.ref sa) else if z = Str.ofString "others" then some (.ref oa) else if z = Str.ofString "before" then some (.ref bf) else if z = Str.ofString "one" then some (.ref x1) else if z = Str.ofString "other" then some (.ref x2) else (if z = Str.ofString "pairs" then some (Value.ref pa) else m0 z)) := emz ▸ Fz
    refine ⟨⟨_, _, D, bf, sa, oa, dvs, svs, ovs, dn, sn, on, r1, r2, tB, tb, _, rfl, Fz, News.sub Nz fun q hq => ?_, rd1, rd2, w1, w2, hpl, hTb, nTb, fun q hq => nT q (.tail _ hq)⟩⟩
    rw [hHe]
    exact (by walk_at "mine subs" : ∀ z ∈ _, z ∈ _) q hq
  clear F6 N6 rd1 rd2 w1 w2 hpl hps hTb nTb nT
  rintro s' ⟨h7, tk7, D, bf, sa, oa, dvs, svs, ovs, dn, sn, on, r1, r2, tB, tb, m0, rfl, F7, N7, rd1, rd2, w1, w2, hpl, hTb, nTb, nT⟩
  refine execs_cutN (Mid8 (ghostOf s1.heap [(117, 113)]) s1.heap.objs.size s1 x1 x2 k1 k2 hT (tl1 ++ tl2) D1 D2) 1 ?_ ?_
  case refine_1 =>
    dsimp only [List.drop, List.take]
    k_with_none
    k_with "exec Assign Name ListComp cons" => (refine stop_here ?_)
    k_with "exec Assign Name ListComp" => (refine stop_here ?_)
    k_with "exec Assign cons ListComp" => (refine stop_here ?_)
    try k_fold
    k_steps
    refine ⟨?_⟩
    rename Fr _ _ _ _ => F8
    rename News _ _ _ _ => N8
    k_dflt (refine LCp.Assign_ListComp_P (F₀ := F8) (by rfl) (by with_unfolding_all rfl) (by with_unfolding_all rfl) (by decide) (by rfl) (by decide) (by rfl) (by rfl) (by decide) (by rfl) (by rfl) ?_)
    k_with_none
    k_with "call ref" => ((with_reducible show wpAny _ _ (call (Value.ref 137) _ _) _ _ _); refine stop_here ?_)
    k_steps
    refine ⟨?_⟩
    refine Does.use (ws := tb) (rest := (D, listOf dvs.toArray dn) :: (oa, listOf ovs.toArray on) :: (sa, listOf svs.toArray sn) :: (bf, tupOf #[r1, r2] 0) :: (tB ++ (tl1 ++ tl2))) (alike_ 3 (s := { s1 with heap := h7, toks := _ }) (tb := tb) (X0.keeps S0) (T0.keeps S0) (upT h7 F8.keep fun q hq => (N8 q (.tail _ (.tail _ (.tail _ (.tail _ (List.mem_append_right _ (List.mem_append_right _ hq))))))).1) IR2 IR1 R2.bd R1.bd (by decide) (by decide) (by decide) (CH.keeps S0) (by rw [hdp]; decide) hh (by exact ar278 hu) hTb (fun q hq => ⟨(N8 q (.tail _ (.tail _ (.tail _ (.tail _ (List.mem_append_left _ hq)))))).1, nT q (.tail _ (.tail _ (.tail _ (.tail _ (List.mem_append_left _ hq)))))⟩)) F8 (News.sub N8 fun q hq => ?_) (fun a ha => ?_) nTb ?_
    · exact (by walk_at "mine subs" : ∀ z ∈ _, z ∈ _) q hq
    · obtain ⟨z, hz, e⟩ := List.mem_map.mp ha
      exact ⟨z.2, e ▸ hz⟩
    rintro r h9 tk9 tl9 F9 N9 off9 ⟨pb, pn, pvs, tb', ex, rfl, rfl, hTS, hps, hex⟩
    have oT : ∀ q ∈ (pb, listOf pvs.toArray pn) :: (tb' ++ ex), hT.get? q.1 = none := fun q hq => by
      rcases off9 q hq with z | z
      · obtain ⟨y, hy, e⟩ := List.mem_map.mp z
        rw [← e]; exact nT y (.tail _ (.tail _ (.tail _ (.tail _ (List.mem_append_left _ hy)))))
      · exact noT _ (N9 q (List.mem_append_left _ hq)).2.2 fun p hp => z p (List.mem_append_right _ (.tail _ (.tail _ (.tail _ (.tail _ (List.mem_append_right _ hp))))))
    obtain ⟨gp, hgp⟩ : ∃ ps, (113, tabObj ps) ∈ tb' := by
      rcases hTS.1 with e | ⟨c', oc, e, _⟩
      · rw [e]; exact ⟨_, .head _⟩
      · rw [e]; exact ⟨_, .head _⟩
    obtain ⟨led, hled⟩ : ∃ led, led = (pb, listOf pvs.toArray pn) :: (D, listOf dvs.toArray dn) :: (oa, listOf ovs.toArray on) :: (sa, listOf svs.toArray sn) :: (bf, tupOf #[r1, r2] 0) :: (((113, tabObj gp) :: (ex ++ tB)) ++ (tl1 ++ tl2)) := ⟨_, rfl⟩
    have N9 : News (ghostOf s1.heap [(117, 113)]) s1.heap.objs.size h9 led := News.sub N9 fun q hq => by
      rw [hled] at hq
      simp only [List.cons_append, List.mem_cons, List.mem_append] at hq ⊢
      rcases hq with h | h | h | h | h | h | (h | h) | h | h
      · simp only [h, true_or, or_true]
      · simp only [h, true_or, or_true]
      · simp only [h, true_or, or_true]
      · simp only [h, true_or, or_true]
      · simp only [h, true_or, or_true]
      · exact .inr (.inl (.inl (h ▸ hgp)))
      · simp only [h, true_or, or_true]
      · simp only [h, true_or, or_true]
      · simp only [h, true_or, or_true]
      · simp only [h, or_true]
    clear F8 N8 off9
    have hpl2 : pvs.length < 10000 := by
      rw [hps.len]
      have : (alike 3 k2 k1).length ≤ 4 ^ 3 := alike_len R2.bd R1.bd R2.two R1.two
      omega
    refine LCp.SrcLP.ledger (its := pvs.toArray) (k := pn) hh F9 N9 (by rw [hled]; exact .head _) (by rw [List.size_toArray, sizeLine_eq]; exact ar294 hpl2) ?_
    intro g9
    rw [List.size_toArray]
    refine turned_rest (hT := hT) (ps := alike 3 k2 k1) (hps.mono fun q hq => ?_) ⟨pn, by rw [hled]; exact .head _⟩ (fun T h1 h2 => noT T h1 fun q hq => h2 q ?_) ?_ ?_ pvs.length 0 [] [] (Nat.zero_add _) .nil (fun _ h => nomatch h)
    · rw [hled]; exact .tail _ (.tail _ (.tail _ (.tail _ (.tail _ (List.mem_append_left _ (.tail _ (List.mem_append_left _ hq)))))))
    · rw [hled]; exact .tail _ (.tail _ (.tail _ (.tail _ (.tail _ (List.mem_append_right _ hq)))))
    · clear F9 N9 hled
      intro I oI C oC m₂ h tk E' Q led v₁ v₂ hC hv1 hv2 F10 N10 kk
      k_with_none
      k_with "newTuple" => (k_here; k_dflt (refine' kup_newTuple ?F ?N ?_ ?z; (case F => k_asm); (case N => k_asm); (case z => kmk_size)); intro TA hTA FTA NTA lTA; (try k_sweep))
      k_steps
      rename Fr _ _ _ _ => F11
      rename News _ _ _ _ => N11
      exact kk TA _ _ F11 N11 lTA
    · clear F9 N9
      intro ys ex2 hy hn D' h10 tk10 F10 N10 off10
      dsimp only at F10
      try dsimp only
      k_with_none
      try k_fold
      k_steps
      rename Fr _ _ _ _ => Fz
      rename News _ _ _ _ => Nz
      have hoD := off1_mem off10
      refine ⟨⟨_, _, D', D, bf, sa, oa, ys, dvs, svs, ovs, ys.length, dn, sn, on, r1, r2, (113, tabObj gp) :: (ex2 ++ (ex ++ tB)), _, rfl, Fz, News.sub Nz fun q hq => ?_, rd1.mono fun q hq => .tail _ (List.mem_append_right _ (List.mem_append_right _ hq)), rd2.mono fun q hq => .tail _ (List.mem_append_right _ (List.mem_append_right _ hq)), w1.mono fun q hq => .tail _ (List.mem_append_right _ (List.mem_append_right _ hq)), w2.mono fun q hq => .tail _ (List.mem_append_right _ (List.mem_append_right _ hq)), hpl.mono fun q hq => .tail _ (List.mem_append_right _ (List.mem_append_right _ hq)), hy.mono fun q hq => .tail _ (List.mem_append_left _ hq), ⟨gp, .head _⟩, fun q hq => ?_⟩⟩
      · rw [hled]
        exact (by walk_at "mine subs" : ∀ z ∈ _, z ∈ _) q hq
      · rcases List.mem_cons.mp hq with h | hq
        · rw [h]
          exact noT _ (Nz _ (.head _)).2.2 fun p hp => hoD p (List.mem_append_right _ (by rw [hled]; exact .tail _ (.tail _ (.tail _ (.tail _ (.tail _ (List.mem_append_right _ hp)))))))
        rcases List.mem_cons.mp hq with h | hq
        · rw [h]; exact nT _ (.head _)
        rcases List.mem_cons.mp hq with h | hq
        · rw [h]; exact nT _ (.tail _ (.head _))
        rcases List.mem_cons.mp hq with h | hq
        · rw [h]; exact nT _ (.tail _ (.tail _ (.head _)))
        rcases List.mem_cons.mp hq with h | hq
        · rw [h]; exact nT _ (.tail _ (.tail _ (.tail _ (.head _))))
        rcases List.mem_cons.mp hq with h | hq
        · rw [h]; exact h113
        rcases List.mem_append.mp hq with hq | hq
        · exact hn q hq
        rcases List.mem_append.mp hq with hq | hq
        · exact oT q (.tail _ (List.mem_append_right _ hq))
        · exact nT q (.tail _ (.tail _ (.tail _ (.tail _ (List.mem_append_right _ hq)))))
  clear F7 N7 rd1 rd2 w1 w2 hpl hTb nTb nT
  rintro s' ⟨h8, tk8, pa, D, bf, sa, oa, pvs, dvs, svs, ovs, pn, dn, sn, on, r1, r2, tB, m0, rfl, F8, N8, rd1, rd2, w1, w2, hpl, hps, ⟨gps, hgps⟩, nT⟩
  dsimp only [List.drop, List.take]
  k_with_none
  k_with "call ref" => ((with_reducible show wpAny _ _ (call (Value.ref 168) _ _) _ _ _); refine stop_here ?_)
  try k_fold
  k_steps
  refine ⟨?_⟩
  rename Fr _ _ _ _ => F9
  rename News _ _ _ _ => N9
  have hal : (alike 3 k2 k1).length ≤ 4 ^ 3 := alike_len R2.bd R1.bd R2.two R1.two
  have hpsl : ((alike 3 k2 k1).map fun q => (q.2, q.1)).length ≤ 64 := by rw [List.length_map]; exact hal
  have pD : ((alike 3 k2 k1).map fun q => (q.2, q.1)).Perm (dueW (k1.ways []) (k2.ways [])) := ((alike_due 3 k2 k1 [] R2.bd R1.bd).map _).trans (dueW_turn _ _)
  obtain ⟨qs, hqs, hpq, hnd, hsm, hq64⟩ := places_due hW1 hW2 lW1 lW2 pD hpsl
  have lD64 : (dueL (k1.ways []) (k2.ways []) (k1.ways []).length).length ≤ 64 := by rw [hpq.length_eq]; exact hq64
  have ips : ∀ q ∈ ((alike 3 k2 k1).map fun q => (q.2, q.1)), IsItem hT q.1 ∧ IsItem hT q.2 := fun q hq => dueW_item iW1 iW2 q (pD.mem_iff.mp hq)
  obtain ⟨H, hHe⟩ : ∃ H, H = (pa, listOf pvs.toArray pn) :: (D, listOf dvs.toArray dn) :: (oa, listOf ovs.toArray on) :: (sa, listOf svs.toArray sn) :: (bf, tupOf #[r1, r2] 0) :: tB := ⟨_, rfl⟩
  have N10 : News (ghostOf s1.heap [(117, 113)]) s1.heap.objs.size h8 (H ++ (tl1 ++ tl2)) := News.sub N9 fun q hq => by
    rw [hHe] at hq
    exact (by walk_at "mine subs" : ∀ z ∈ _, z ∈ _) q hq
  have sB : ∀ q ∈ tB, q ∈ H := fun q hq => by rw [hHe]; exact .tail _ (.tail _ (.tail _ (.tail _ (.tail _ hq))))
  have mpa : (pa, listOf pvs.toArray pn) ∈ H := by rw [hHe]; exact .head _
  have mD : (D, listOf dvs.toArray dn) ∈ H := by rw [hHe]; exact .tail _ (.head _)
  have moa : (oa, listOf ovs.toArray on) ∈ H := by rw [hHe]; exact .tail _ (.tail _ (.head _))
  have msa : (sa, listOf svs.toArray sn) ∈ H := by rw [hHe]; exact .tail _ (.tail _ (.tail _ (.head _)))
  have mbf : (bf, tupOf #[r1, r2] 0) ∈ H := by rw [hHe]; exact .tail _ (.tail _ (.tail _ (.tail _ (.head _))))
  have nH : ∀ q ∈ H, hT.get? q.1 = none := fun q hq => nT q (hHe ▸ hq)
  refine Does.use (ws := H) (rest := tl1 ++ tl2) (places_ (s := { s1 with heap := h8, toks := _ }) (X0.keeps S0) (T0.keeps S0) (upT h8 F9.keep fun q hq => (N10 q (List.mem_append_right _ hq)).1) (fun q hq => ⟨(N10 q (List.mem_append_left _ hq)).1, nH q hq⟩) mpa msa moa (hps.mono sB) (w1.mono sB) (w2.mono sB) ips iW1 iW2 ⟨by rw [w1.len]; exact ar290 lW1, by rw [w2.len]; exact ar290 lW2⟩ (by exact ar295 hpsl) hqs hnd hsm hq64 (by exact ar289 hu) (by rw [hdp]; decide) hh) F9 N10 (fun a ha => ?_) (fun q hq hm => ?_) ?_
  · obtain ⟨z, hz, e⟩ := List.mem_map.mp ha
    exact ⟨z.2, e ▸ hz⟩
  · obtain ⟨z, hz, e⟩ := List.mem_map.mp hm
    have e1 := tT q hq
    rw [← e, nH z hz] at e1
    cases e1
  rintro r h11 tk11 tl11 F11 N11 off11 ⟨P, pn2, out, exP, rfl, rfl, hout⟩
  clear off11 F9 N9 N10
  k_with_none
  k_with "call builtin:sorted" => (refine stop_here ?_)
  try dsimp only
  try k_fold
  k_steps
  refine ⟨?_⟩
  rename Fr _ _ _ _ => F12
  rename News _ _ _ _ => N12
  have srt := dueL_sorted (k1.ways []) (k2.ways []) (k1.ways []).length
  refine sorted_c (vs := dvs) (n := dn) (Out := SortedP tB (dueL (k1.ways []) (k2.ways []) (k1.ways []).length)) F12 N12 (List.mem_append_left _ (.tail _ (List.mem_append_right _ mD))) ?_ (fun h2 => ⟨_, .refl _, srt, hpl⟩) (fun h2 h' F' N' => sort_places hpl (fun q hq => (N' q (List.mem_append_left _ (.tail _ (List.mem_append_right _ (sB q hq))))).1) (lex_nodup srt) (dueL_small (by exact ar290 lW1) (by exact ar290 lW2)) lD64 ?_ ?_) ?_
  · rw [hpl.len, List.length_map]; exact lD64
  · rw [hpl.len, List.length_map] at h2; exact h2
  · show A.units + 1 + 1 + 64 < 9900; exact ar292 hu
  intro D9 out2 h13 c13 hout2 F13 N13 lD9
  clear F12 N12 lD9
  have pl1 := sortedP_due srt hpq hout
  have pl2 := sortedP_due srt (.refl _) hout2
  k_with_none
  k_with "compareOp Eq ref ref" => (refine stop_here ?_)
  try dsimp only
  try k_fold
  k_steps
  refine ⟨?_⟩
  rename Fr _ _ _ _ => F14
  rename News _ _ _ _ => N14
  have m2 : ∀ q ∈ exP ++ H, q ∈ (D9, listOf out2.toArray c13) :: ((P, listOf out.toArray pn2) :: (exP ++ H) ++ (tl1 ++ tl2)) := fun q hq => .tail _ (List.mem_append_left _ (.tail _ hq))
  refine eq_places (N14 (P, listOf out.toArray pn2) (.tail _ (List.mem_append_left _ (.head _)))).1 (N14 (D9, listOf out2.toArray c13) (.head _)).1 pl1 (fun q hq => (N14 q (m2 q (List.mem_append_left _ hq))).1) pl2 (fun q hq => (N14 q (m2 q (List.mem_append_right _ (sB q hq)))).1) (by exact ar289 hu) ?_
  have N14 : News (ghostOf s1.heap [(117, 113)]) s1.heap.objs.size h13 ((bf, tupOf #[r1, r2] 0) :: (tB ++ (tl1 ++ tl2))) := News.sub N14 fun q hq => by
    rcases List.mem_cons.mp hq with h | hq
    · rw [h]; exact m2 _ (List.mem_append_right _ mbf)
    rcases List.mem_append.mp hq with h | h
    · exact m2 _ (List.mem_append_right _ (sB q h))
    · exact .tail _ (List.mem_append_right _ h)
  clear IR1 IR2 CH h113 K1k K2k m2 nH mbf mpa mD moa msa sB hout hout2 pl1 pl2 srt hqs hpq hnd hsm hq64 lD64 ips pD hpsl hal hpl hps w1 w2 lW1 lW2 hW1 hW2 iW1 iW2 nT hHe
  k_with_none
  k_with "callWith ref" => (k_here; refine' callWith_K0 (X0.keeps F14.keep) ?k2 ?_; (case k2 => k_is); k_whole)
  k_with "call ref" => ((with_reducible show wpAny _ _ (call (Value.ref 85) _ _) _ _ _); refine stop_here ?_)
  try dsimp only
  try k_fold
  k_steps
  refine ⟨?_⟩
  rename Fr _ _ _ _ => F15
  rename News _ _ _ _ => N15
  refine Does.use (ws := []) (rest := (bf, tupOf #[r1, r2] 0) :: (tB ++ (tl1 ++ tl2))) (told_ (X0.keeps S0) (T0.keeps S0) (.cons x1 n1 k1 .nil) 4 .none K1 ⟨R1.two, R1.bd, trivial⟩ 0 x1 rfl A { s1 with heap := h13, toks := _ } (upT h13 F15.keep fun q hq => (N15 q (.tail _ (List.mem_append_right _ hq))).1) (by rw [hdp]; decide) hh) F15 N15 (fun _ h => nomatch h) (fun _ _ h => nomatch h) ?_
  rintro q1 h16 tk16 ta F16 N16 off16 ⟨D1', e1, rq1⟩
  obtain rfl : D1' = D1 := Option.some.inj (e1.symm.trans hD1)
  have N16 : News (ghostOf s1.heap [(117, 113)]) s1.heap.objs.size h16 ((bf, tupOf #[r1, r2] 0) :: ((ta ++ tB) ++ (tl1 ++ tl2))) := News.sub N16 fun q hq => by
    exact (by walk_at "mine subs" : ∀ z ∈ _, z ∈ _) q hq
  clear F15 N15 off16
  k_with_none
  k_with "callWith ref" => (k_here; refine' callWith_K0 (X0.keeps F16.keep) ?k2 ?_; (case k2 => k_is); k_whole)
  k_with "call ref" => ((with_reducible show wpAny _ _ (call (Value.ref 85) _ _) _ _ _); refine stop_here ?_)
  try dsimp only
  try k_fold
  k_steps
  refine ⟨?_⟩
  rename Fr _ _ _ _ => F17
  rename News _ _ _ _ => N17
  refine Does.use (ws := []) (rest := (bf, tupOf #[r1, r2] 0) :: ((ta ++ tB) ++ (tl1 ++ tl2))) (told_ (X0.keeps S0) (T0.keeps S0) (.cons x2 n2 k2 .nil) 4 .none K2 ⟨R2.two, R2.bd, trivial⟩ 0 x2 rfl A { s1 with heap := h16, toks := _ } (upT h16 F17.keep fun q hq => (N17 q (.tail _ (List.mem_append_right _ hq))).1) (by rw [hdp]; decide) hh) F17 N17 (fun _ h => nomatch h) (fun _ _ h => nomatch h) ?_
  rintro q2 h18 tk18 tb F18 N18 off18 ⟨D2', e2, rq2⟩
  obtain rfl : D2' = D2 := Option.some.inj (e2.symm.trans hD2)
  have N18 : News (ghostOf s1.heap [(117, 113)]) s1.heap.objs.size h18 ((bf, tupOf #[r1, r2] 0) :: ((tb ++ (ta ++ tB)) ++ (tl1 ++ tl2))) := News.sub N18 fun q hq => by
    exact (by walk_at "mine subs" : ∀ z ∈ _, z ∈ _) q hq
  clear F17 N17 off18
  k_with_none
  k_with "newTuple" => (k_here; k_dflt (refine' kup_newTuple ?F ?N ?_ ?z; (case F => k_asm); (case N => k_asm); (case z => kmk_size)); intro TA hTA FTA NTA lTA; (try k_sweep))
  k_with "compareOp Eq ref ref" => (refine stop_here ?_)
  try dsimp only
  try k_fold
  k_steps
  refine ⟨?_⟩
  rename Fr _ _ _ _ => F19
  rename News _ _ _ _ => N19
  have bd1 : (G.cons x1 n1 k1 .nil).Bd 4 := ⟨R1.two, R1.bd, trivial⟩
  have bd2 : (G.cons x2 n2 k2 .nil).Bd 4 := ⟨R2.two, R2.bd, trivial⟩
  have us1 : (G.cons x1 n1 k1 .nil).UsOk := ⟨⟨fun _ => R1.own.1, R1.own.2⟩, R1.us, trivial⟩
  have us2 : (G.cons x2 n2 k2 .nil).UsOk := ⟨⟨fun _ => R2.own.1, R2.own.2⟩, R2.us, trivial⟩
  have upB : ∀ q ∈ tb ++ (ta ++ tB), hTA.get? q.1 = some q.2 := fun q hq => (N19 q (.tail _ (.tail _ (List.mem_append_left _ hq)))).1
  have stT : hT.StaysIn hTA := upT hTA F19.keep fun q hq => (N19 q (.tail _ (.tail _ (List.mem_append_right _ hq)))).1
  refine eq_told (N19 (TA, tupOf #[q1, q2] 0) (.head _)).1 (N19 (bf, tupOf #[r1, r2] 0) (.tail _ (.head _))).1 (rq1 hTA stT fun q hq => upB q (List.mem_append_right _ (List.mem_append_left _ hq))) (rq2 hTA stT fun q hq => upB q (List.mem_append_left _ hq)) (rd1 hTA stT fun q hq => upB q (List.mem_append_right _ (List.mem_append_right _ hq))) (rd2 hTA stT fun q hq => upB q (List.mem_append_right _ (List.mem_append_right _ hq))) (shaped_told hD1 hD2 us1 us2 bd1 bd2) (by exact ar289 hu) ?_
  first | (show qk _ _) | skip
  k_unfold
  dsimp only
  refine ⟨goodW_bool F19 (by assumption) (raisesW_false ?hn) ?hp, GrownAt.of N19 (.tail _ (.tail _ (List.mem_append_left _ (List.mem_append_right _ (List.mem_append_right _ hgps))))), trivial⟩
  case hn =>
    wrow_none_raised
  case hp =>
    exact post_ _
  )
end
end
end Mine
set_option maxRecDepth 100000 in
set_option maxHeartbeats 8000000 in
theorem PySem.Challenge.cw_og0075_01_holds : PySem.Challenge.rw_og0075_01.Holds := by
  exact Mine.law_
