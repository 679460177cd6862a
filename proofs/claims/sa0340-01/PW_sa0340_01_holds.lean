import PyProof.Rows.All
import Wide.All
import Open.Line
import Open.FastRun
import Open.FastT9
import Wide.FinOn
import Lean
import PySem.Challenge.RW_sa0340_01
set_option Elab.async false
set_option linter.all false
section
namespace Mine
theorem o0 {a0 : Nat}  : (((((((a0 : Nat) : Int) - (1 : Int)) - (-(1 : Int))) - (-(1 : Int))) - (1 : Int)) = ((a0 : Nat) : Int)) := by simp
theorem o1 {a0 : Nat} (h0 : (¬ ((((a0 : Nat) : Int) - (1 : Int)) > (-(1 : Int))))) : ((0 : Int) = ((a0 : Nat) : Int)) := by lia
theorem o2 {a0 a1 : Nat}  : ((Int.toNat ((((a0 : Nat) : Int) - (1 : Int)) + ((-(1 : Int)) * ((a1 : Nat) : Int)))) = ((a0 - (1 : Nat)) - a1)) := by lia
theorem o3 {a0 a1 : Nat} (h0 : (a0 < a1)) : (((a1 - (1 : Nat)) - a0) < a1) := by omega
theorem o4 {a0 : Nat}  : ((Int.toNat (((a0 : Nat) : Int) - (1 : Int))) = (a0 - (1 : Nat))) := by simp
theorem o5 {a0 : Int} (h0 : ((0 : Int) < a0)) : ((0 : Int) ≤ (a0 - (1 : Int))) := Int.sub_nonneg_of_le h0
theorem o6 {a0 : Int} (h0 : (¬ ((0 : Int) ≤ a0))) : ((((Int.toNat ((-a0) - (1 : Int))) : Nat) : Int) = ((-a0) - (1 : Int))) := by lia
theorem o7 {a0 : Int} (h0 : ((0 : Int) < a0)) : (a0 ≠ (0 : Int)) := Int.ne_of_gt h0
theorem o8 {a0 a1 : Int} (h0 : (a0 < a1)) : ((0 : Int) ≤ ((a1 - (1 : Int)) - a0)) := by lia
theorem o9 {a0 a1 : Int} (h0 : ((0 : Int) ≤ a0)) : (((a1 - (1 : Int)) - a0) < a1) := by lia
theorem o10 {a0 : Nat} (h0 : (a0 ≤ ((2 : Nat) ^ 20))) : (a0 ≤ (16777216 : Nat)) := Nat.le_trans h0 (by decide)
theorem o11 {a0 : Int} (h0 : ((0 : Int) < a0)) (h1 : (a0 < ((2 : Int) ^ 64))) : ((Int.natAbs a0) < ((2 : Nat) ^ 64)) := by omega
theorem o12 {a0 : Int} (h0 : ((0 : Int) < a0)) : ((Int.natAbs a0) ≠ (0 : Nat)) := by omega
theorem o13 {a0 : Nat} (h0 : (a0 < (64 : Nat))) : (a0 < (9000 : Nat)) := Nat.lt_of_lt_of_le h0 (by decide)
theorem o14 {a0 : Int} (h0 : (a0 ≤ (1000 : Int))) : (a0 ≤ (1000000 : Int)) := Int.le_trans h0 (by decide)
theorem o15 {a0 : Int} (h0 : (a0 ≤ ((((2 : Nat) ^ 20) : Nat) : Int))) : ((Int.toNat a0) ≤ ((2 : Nat) ^ 20)) := by simpa using h0
theorem o16 {a0 : Int} (h0 : (a0 ≤ ((((2 : Nat) ^ 20) : Nat) : Int))) : (a0 ≤ ((2 : Int) ^ 20)) := h0
theorem o17 {a0 : Int} (h0 : ((-((((2 : Nat) ^ 20) : Nat) : Int)) ≤ a0)) : ((-((2 : Int) ^ 63)) ≤ a0) := Int.le_trans (by decide) h0
theorem o18 {a0 : Int} (h0 : (a0 ≤ ((2 : Int) ^ 20))) (h1 : ((-((2 : Int) ^ 63)) ≤ a0)) : (((-(9223372036854775808 : Int)) ≤ a0) ∧ (a0 < (9223372036854775808 : Int))) := by lia
theorem o19 {a0 : Int} (h0 : (a0 ≤ ((2 : Int) ^ 20))) : (a0 ≤ (1152921504606846975 : Int)) := Int.le_trans h0 (by decide)
theorem o20 {a0 : Int} (h0 : (a0 ≤ ((2 : Int) ^ 20))) : (a0 ≤ (16777216 : Int)) := Int.le_trans h0 (by decide)
theorem o21 {a0 : Nat} (h0 : (a0 ≤ (1 : Nat))) : ((max ((0 : Nat) + (1 : Nat)) a0) ≤ (1 : Nat)) := by lia
theorem o22 {a0 : Nat} (h0 : (a0 ≤ (1 : Nat))) : ((a0 + (1 : Nat)) ≤ (64 : Nat)) := by lia
theorem o23 {a1 : Int} {a0 : Nat} (h0 : (a0 ≤ ((2 : Nat) ^ 20))) (h1 : ((Int.toNat a1) < a0)) : (a1 < ((2 : Int) ^ 63)) := by lia
theorem o24 {a0 : Nat} (h0 : ((a0 - (1 : Nat)) < a0)) : ((0 : Nat) < a0) := by lia
theorem o25 {a0 : Nat} (h0 : ((0 : Nat) < a0)) : ((-((a0 : Nat) : Int)) ≤ (-(1 : Int))) := by lia
theorem o26 {a0 : Nat}  : ((Int.toNat ((-(1 : Int)) + ((a0 : Nat) : Int))) = (a0 - (1 : Nat))) := by lia
theorem o27 {a1 : Int} {a0 : Nat} (h0 : (a0 ≤ ((2 : Nat) ^ 20))) (h1 : (a1 < ((a0 : Nat) : Int))) : (a1 < ((2 : Int) ^ 63)) := by lia
theorem o28 {a0 a1 a2 : Nat} (h0 : (a0 = a1)) (h1 : (((a2 : Nat) : Int) < ((a1 : Nat) : Int))) : (a2 < a0) := by subst h0; lia
theorem o29 {a0 a1 : Nat} (h0 : (a0 ≤ ((2 : Nat) ^ 20))) (h1 : (a1 = a0)) : (((a1 : Nat) : Int) < ((2 : Int) ^ 63)) := by lia
theorem o30 {a0 a1 a2 : Nat} (h0 : (((a0 + ((8 : Nat) * a1)) + (200 : Nat)) < a2)) : ((a0 + (64 : Nat)) < a2) := by lia
theorem o31 {a0 : Int} (h0 : (a0 ≠ (0 : Int))) : ((Int.natAbs a0) ≠ (0 : Nat)) := by simpa using h0
theorem o32 {a0 : Nat} (h0 : (a0 < (40 : Nat))) : (a0 < (9000 : Nat)) := Nat.lt_of_lt_of_le h0 (by decide)
theorem o33 {a0 a1 a2 : Nat} (h0 : (a0 = a1)) (h1 : (a1 = a2)) : (a2 = a0) := by lia
theorem o34 {a0 a1 : Nat} (h0 : (a0 = (a1 + (1 : Nat)))) (h1 : (a0 ≤ a1)) : False := by subst h0; lia
theorem o35 {a0 : Nat} (h0 : ((a0 = (2 : Nat)) ∨ (a0 = (3 : Nat)))) : (a0 ≤ (16777216 : Nat)) := by lia
theorem o36 {a0 a1 a2 : Nat} (h0 : (a0 = a1)) (h1 : (a2 = a0)) : (a1 = a2) := by subst h0; lia
theorem o37 {a0 a1 : Nat} (h0 : (a0 = a1)) : (a0 ≤ a1) := Nat.le_of_eq h0
theorem o38 {a0 a1 : Nat} (h0 : (a0 = a1)) : (a1 ≤ a0) := by subst h0; lia
theorem o39 {a0 a1 a2 : Nat} (h0 : (a0 = a1)) (h1 : (a2 = a0)) : ((min a0 a1) = a2) := by subst h0; lia
theorem o40 {a0 a1 : Nat} (h0 : (a0 < a1)) : (((a1 + (1 : Nat)) - (a0 + (1 : Nat))) < ((a1 + (1 : Nat)) - a0)) := by lia
theorem o41 {a0 a1 : Int} (h0 : (a0 < a1)) : ((0 : Int) ≤ ((a1 - a0) - (1 : Int))) := by lia
theorem o42 {a0 : Int} (h0 : (a0 > (0 : Int))) : ((0 : Int) ≤ a0) := Int.le_of_lt h0
theorem o43 {a0 : Int} (h0 : ((0 : Int) ≤ a0)) : ((0 : Int) ≤ (a0 + (1 : Int))) := by lia
theorem o44 {a0 a1 : Int} (h0 : (a0 > a1)) : ((0 : Int) ≤ ((a0 - a1) - (1 : Int))) := by lia
theorem o45 {a0 : Int} (h0 : (¬ (a0 > (0 : Int)))) : ((0 : Int) ≤ (-a0)) := by simpa using h0
theorem o46 {a0 a1 : Nat} (h0 : (a0 < a1)) : ((0 : Int) < (((a1 : Nat) : Int) - ((a0 : Nat) : Int))) := by simpa using h0
theorem o48 {a0 a1 : Nat}  : (((((a0 : Nat) : Int) - ((a1 : Nat) : Int)) - (1 : Int)) = (((a0 : Nat) : Int) - (((a1 + (1 : Nat)) : Nat) : Int))) := by lia
theorem o49 {a0 : Nat}  : ((((a0 : Nat) : Int) - ((a0 : Nat) : Int)) ≤ (0 : Int)) := by simp
theorem o50 {a0 a1 : Nat} (h0 : (a0 < a1)) : (a0 ≠ (a1 + (1 : Nat))) := by lia
theorem o51 {a0 a1 : Nat} (h0 : (a0 < a1)) : (a0 ≠ a1) := by lia
theorem o52 {a0 a1 a2 : Nat} (h0 : (a0 ≤ a1)) (h1 : (a0 ≤ a2)) (h2 : ((a1 - a0) = (a2 - a0))) : (a1 = a2) := by omega
theorem o53  : ((0 : Nat) ≤ (16777216 : Nat)) := by simp
theorem o54 {a0 a1 a2 : Nat} (h0 : (a0 = a1)) (h1 : (a2 < a1)) : (a2 < a0) := by subst h0; omega
theorem o55 {a0 a1 : Nat}  : (a0 ≤ (a0 + a1)) := by simp
theorem o56 {a0 : Nat}  : (a0 ≤ (a0 + (0 : Nat))) := by simp
theorem o57 {a0 a1 : Nat} (h0 : ((a0 = (a1 + (0 : Nat))) ∨ (a0 = (a1 + (1 : Nat))))) : (a1 ≤ a0) := by lia
theorem o58 {a0 : Nat}  : (a0 ≤ (a0 + (1 : Nat))) := by simp
theorem o59 {a0 a1 : Nat} (h0 : (a0 ≤ a1)) : ((min a0 a1) = a0) := by lia
theorem o60 {a0 a1 a2 : Nat} (h0 : ((a0 + (a1 + (1 : Nat))) < a2)) : (a0 < a2) := by lia
theorem o61 {a0 a1 : Nat} (h0 : (¬ (a0 < a1))) : (a1 ≤ a0) := Nat.not_lt.mp h0
theorem o62 {a0 a1 : Nat} (h0 : (a0 ≤ a1)) : ((a0 + (a1 - a0)) = a1) := by lia
theorem o63 {a0 a1 a2 : Nat} (h0 : ((a0 + (a1 + (1 : Nat))) < a2)) : (((a0 + (1 : Nat)) + a1) < a2) := by lia
theorem o64 {a0 a1 a2 : Nat} (h0 : (((a0 + ((8 : Nat) * (a1 + (1 : Nat)))) + (200 : Nat)) < a2)) : ((((a0 + (3 : Nat)) + ((8 : Nat) * a1)) + (200 : Nat)) < a2) := by lia
theorem o65 {a0 a1 : Nat} (h0 : (a0 = (34 : Nat))) (h1 : (a1 < (34 : Nat))) : (a1 < a0) := by subst h0; omega
theorem o66 {a0 : Nat} (h0 : (a0 = (34 : Nat))) : ((0 : Nat) < a0) := by rw [h0]; decide
theorem o67 {a0 a1 : Nat} (h0 : (a0 = (34 : Nat))) (h1 : (a1 < a0)) : (a1 < (34 : Nat)) := by subst h0; omega
theorem o68 {a0 a1 : Int} (h0 : ((0 : Int) ≤ a0)) (h1 : ((0 : Int) ≤ a1)) : ((0 : Int) ≤ (a0 + a1)) := by lia
theorem o69 {a0 a1 : Int} (h0 : (a0 < a1)) : (a0 ≤ (a1 - (1 : Int))) := by lia
theorem o70 {a0 a1 a2 a3 a4 : Int} (h0 : (a0 < a1)) (h1 : (a2 ≤ a3)) (h2 : (a3 = (a4 - a1))) : ((a0 + a2) < a4) := by lia
theorem o71 {a0 a1 : Nat} (h0 : (¬ (a0 ≤ a1))) : (a1 ≤ a0) := by lia
theorem o72 {a0 a1 a2 : Int}  : ((a0 + a1) = ((a2 + a1) + (a0 - a2))) := by lia
theorem o73 {a0 : Int} (h0 : ((0 : Int) < a0)) : (((0 : Int) ≤ (0 : Int)) ∧ ((0 : Int) < a0)) := by simpa using h0
theorem o74 {a0 : Int} (h0 : ((2 : Int) ≤ a0)) : ((0 : Int) < a0) := Int.le_of_lt h0
theorem o75 {a0 a1 : Int} (h0 : ((0 : Int) < a0)) (h1 : ((a0 * (2 : Int)) ≤ a1)) : (a0 < a1) := by lia
theorem o76 {a0 : Int} (h0 : ((2 : Int) ≤ a0)) : ((0 : Int) ≤ a0) := Int.le_trans (by decide) h0
theorem o77 {a0 a1 : Int} (h0 : ((0 : Int) < a0)) (h1 : (a1 < a0)) : ((Int.toNat a1) < (Int.toNat a0)) := by lia
theorem o78 {a0 a1 : Int} (h0 : (a0 ≤ (0 : Int))) : (¬ (((0 : Int) < a0) ∧ ((2 : Int) ≤ a1))) := by lia
theorem o79 {a0 : Int} (h0 : ((0 : Int) ≤ a0)) (h1 : ((Int.toNat a0) ≤ (0 : Nat))) : (a0 = (0 : Int)) := by lia
theorem o80 {a0 : Int} (h0 : ((0 : Int) ≤ a0)) (h1 : (¬ (a0 = (0 : Int)))) : ((0 : Int) < a0) := by lia
theorem o81 {a0 a1 : Int} (h0 : ((0 : Int) ≤ a0)) (h1 : (a0 < a1)) : ((0 : Int) < a1) := Int.lt_of_le_of_lt h0 h1
theorem o82 {a0 a2 : Int} {a1 : Nat} (h0 : ((Int.toNat a0) ≤ (a1 + (1 : Nat)))) (h1 : (a2 < a0)) : ((Int.toNat a2) ≤ a1) := by lia
theorem o83 {a0 a1 a2 : Int} (h0 : ((a0 + a1) = a2)) : ((a0 + a1) = a2) := by omega
theorem o84 {a0 : Int} (h0 : ((2 : Int) ≤ a0)) : (a0 ≠ (0 : Int)) := by lia
theorem o85 {a0 a1 : Int} (h0 : ((0 : Int) ≤ a0)) (h1 : ((0 : Int) ≤ a1)) (h2 : (a0 ≠ (0 : Int))) : ((0 : Int) < (a0 + a1)) := by lia
theorem o86 {a0 : Int} (h0 : ((0 : Int) ≤ a0)) (h1 : (a0 ≠ (0 : Int))) : ((0 : Int) < a0) := by lia
theorem o87 {a0 a1 : Int} (h0 : ((0 : Int) ≤ a0)) (h1 : ((0 : Int) < a1)) : ((0 : Int) < (a0 + a1)) := by lia
theorem o88 {a0 : Int}  : (((0 : Int) + (a0 * (0 : Int))) ≤ (0 : Int)) := by simp
theorem o89 {a0 a1 : Int} (h0 : (¬ ((a0 = (0 : Int)) ∧ (a1 = (0 : Int))))) : ((a1 ≠ (0 : Int)) ∨ (a0 ≠ (0 : Int))) := by lia
theorem o90 {a0 a1 a2 : Int} (h0 : ((0 : Int) < a0)) (h1 : ((a1 + (a2 * (0 : Int))) = a0)) : (¬ (a1 = (0 : Int))) := by lia
theorem o91 {a0 : Int} (h0 : ((0 : Int) ≤ a0)) (h1 : (a0 < (1 : Int))) : (a0 = (0 : Int)) := by lia
theorem o92 {a0 a1 : Nat} (h0 : (a0 ≤ a1)) : ((a0 + (1 : Nat)) ≤ (a1 + (1 : Nat))) := Nat.lt_succ_of_le h0
theorem o93 {a0 : Int}  : (((0 : Int) < (0 : Int)) → (a0 ≤ (0 : Int))) := by simp
theorem o94 {a0 : Int} (h0 : ((0 : Int) < a0)) : ((1 : Int) ≤ a0) := h0
theorem o95 {a0 : Int} (h0 : (¬ (a0 = (0 : Int)))) (h1 : ((0 : Int) ≤ a0)) : ((0 : Int) < a0) := by lia
theorem o96 {a0 : Int} (h0 : ((0 : Int) < a0)) : ((0 : Int) ≤ a0) := Int.le_of_lt h0
theorem o97 {a0 : Nat} (h0 : ((0 : Nat) < a0)) : (a0 = ((a0 - (1 : Nat)) + (1 : Nat))) := by lia
theorem o98 {a0 a1 a2 : Int} (h0 : (a0 ≤ a1)) (h1 : (a1 ≤ a2)) : (a0 ≤ a2) := Int.le_trans h0 h1
theorem o99 {a0 : Nat} (h0 : ((4 : Nat) ≤ a0)) (h1 : (a0 ≤ (6 : Nat))) : ((a0 = (4 : Nat)) ∨ ((a0 = (5 : Nat)) ∨ (a0 = (6 : Nat)))) := by lia
theorem o100 {a0 : Int} (h0 : ((a0 = (16 : Int)) ∨ ((a0 = (32 : Int)) ∨ (a0 = (64 : Int))))) : ((2 : Int) ≤ a0) := by lia
theorem o101 {a0 : Int} (h0 : ((a0 = (16 : Int)) ∨ ((a0 = (32 : Int)) ∨ (a0 = (64 : Int))))) : (((16 : Int) ≤ a0) ∧ (a0 ≤ (64 : Int))) := by lia
theorem o102 {a0 : Nat}  : ((-((a0 : Nat) : Int)) < (1 : Int)) := by lia
theorem o103 {a0 : Nat}  : ((Int.toNat ((-((-((a0 : Nat) : Int)) - (1 : Int))) - (1 : Int))) = a0) := by lia
theorem o104 {a0 : Nat}  : (((-((-((a0 : Nat) : Int)) - (1 : Int))) - (1 : Int)) = ((a0 : Nat) : Int)) := by lia
theorem o105 {a0 : Nat} (h0 : ((1 : Nat) ≤ a0)) : (a0 = ((a0 - (1 : Nat)) + (1 : Nat))) := by lia
theorem o106 {a0 a1 : Int}  : ((Int.toNat (((a0 - a1) - (1 : Int)) + (1 : Int))) = (Int.toNat (a0 - a1))) := by simp
theorem o107 {a0 a1 : Int} (h0 : (¬ (a0 < a1))) : ((Int.toNat (0 : Int)) = (Int.toNat (a1 - a0))) := by lia
theorem o108 {a0 a1 : Int} (h0 : (¬ (a0 > a1))) : ((Int.toNat (0 : Int)) = (Int.toNat (a0 - a1))) := by lia
theorem o109 {a0 a1 : Int} (h0 : ((-(1 : Int)) ≤ a0)) (h1 : (a1 ≤ (1000000 : Int))) (h2 : (a0 < a1)) : (((0 : Int) ≤ (((a1 - a0) - (1 : Int)) + (1 : Int))) ∧ ((((a1 - a0) - (1 : Int)) + (1 : Int)) ≤ (1000001 : Int))) := by lia
theorem o110  : (((0 : Int) ≤ (0 : Int)) ∧ ((0 : Int) ≤ (1000001 : Int))) := by decide
theorem o111 {a0 a1 a2 : Int} (h0 : ((-(1 : Int)) ≤ a0)) (h1 : (a0 ≤ (1000000 : Int))) (h2 : ((-(1 : Int)) ≤ a1)) (h3 : (a1 ≤ (1000000 : Int))) (h4 : ((0 : Int) ≤ a2)) (h5 : (a2 ≤ (1000001 : Int))) : (((((((-((2 : Int) ^ 63)) ≤ a0) ∧ (a0 < ((2 : Int) ^ 63))) ∧ (((-((2 : Int) ^ 63)) ≤ a1) ∧ (a1 < ((2 : Int) ^ 63)))) ∧ (((-((2 : Int) ^ 63)) ≤ (1 : Int)) ∧ ((1 : Int) < ((2 : Int) ^ 63)))) ∧ (((-((2 : Int) ^ 63)) ≤ a2) ∧ (a2 < ((2 : Int) ^ 63)))) ∧ ((a2 = (0 : Int)) ∨ (((-((2 : Int) ^ 63)) ≤ (a1 + ((1 : Int) - (1 : Int)))) ∧ ((a1 + ((1 : Int) - (1 : Int))) < ((2 : Int) ^ 63))))) := by lia
theorem o112 {a0 a1 : Int} (h0 : ((-(1 : Int)) ≤ a0)) (h1 : (a1 ≤ (1000000 : Int))) : ((Int.toNat (a1 - a0)) ≤ ((2 : Nat) ^ 20)) := by lia
theorem o113 {a0 a1 : Int} (h0 : (a0 ≤ (1000000 : Int))) (h1 : ((-(1 : Int)) ≤ a1)) (h2 : (a0 > a1)) : (((0 : Int) ≤ (((a0 - a1) - (1 : Int)) + (1 : Int))) ∧ ((((a0 - a1) - (1 : Int)) + (1 : Int)) ≤ (1000001 : Int))) := by lia
theorem o114 {a0 a1 a2 : Int} (h0 : ((-(1 : Int)) ≤ a0)) (h1 : (a0 ≤ (1000000 : Int))) (h2 : ((-(1 : Int)) ≤ a1)) (h3 : (a1 ≤ (1000000 : Int))) (h4 : ((0 : Int) ≤ a2)) (h5 : (a2 ≤ (1000001 : Int))) : (((((((-((2 : Int) ^ 63)) ≤ a0) ∧ (a0 < ((2 : Int) ^ 63))) ∧ (((-((2 : Int) ^ 63)) ≤ a1) ∧ (a1 < ((2 : Int) ^ 63)))) ∧ (((-((2 : Int) ^ 63)) ≤ (-(1 : Int))) ∧ ((-(1 : Int)) < ((2 : Int) ^ 63)))) ∧ (((-((2 : Int) ^ 63)) ≤ a2) ∧ (a2 < ((2 : Int) ^ 63)))) ∧ ((a2 = (0 : Int)) ∨ (((-((2 : Int) ^ 63)) ≤ (a1 + ((-(1 : Int)) + (1 : Int)))) ∧ ((a1 + ((-(1 : Int)) + (1 : Int))) < ((2 : Int) ^ 63))))) := by lia
theorem o115 {a0 a1 : Int} (h0 : (a0 ≤ (1000000 : Int))) (h1 : ((-(1 : Int)) ≤ a1)) : ((Int.toNat (a0 - a1)) ≤ ((2 : Nat) ^ 20)) := by lia
theorem o116 {a0 : Nat}  : ((Int.toNat ((((a0 : Nat) : Int) - (1 : Int)) - (-(1 : Int)))) = a0) := by simp
theorem o117 {a0 : Nat}  : ((-(1 : Int)) ≤ (((a0 : Nat) : Int) - (1 : Int))) := by lia
theorem o118 {a0 : Nat} (h0 : (a0 ≤ (1000000 : Nat))) : ((((a0 : Nat) : Int) - (1 : Int)) ≤ (1000000 : Int)) := by lia
theorem o119  : ((-(1 : Int)) ≤ (-(1 : Int))) := Int.natCast_nonneg _
theorem o120  : ((-(1 : Int)) ≤ (1000000 : Int)) := Int.natCast_nonneg _
theorem o121 {a0 a1 : Nat} (h0 : (a0 < a1)) : (((a1 - a0) - (1 : Nat)) < a1) := by omega
theorem o122 {a0 a1 : Nat} (h0 : (a0 < a1)) : ((((a1 - a0) - (1 : Nat)) + (1 : Nat)) = (a1 - a0)) := by lia
theorem o123 {a0 a1 : Nat} (h0 : (a0 < a1)) : (((((a1 : Nat) : Int) - (1 : Int)) + (((a0 : Nat) : Int) * (-(1 : Int)))) = ((((a1 - a0) - (1 : Nat)) : Nat) : Int)) := by omega
theorem o124 {a0 a1 : Nat}  : ((a0 - (a1 + (1 : Nat))) = ((a0 - a1) - (1 : Nat))) := by lia
theorem o125 {a0 a1 : Nat}  : ((Int.toNat (((a0 : Nat) : Int) - ((a1 : Nat) : Int))) = (a0 - a1)) := by simp
theorem o126 {a0 : Nat}  : ((-(1 : Int)) ≤ ((a0 : Nat) : Int)) := Int.natCast_nonneg _
theorem o127 {a0 a1 : Nat} (h0 : (a0 ≤ a1)) (h1 : (a1 ≤ (1000000 : Nat))) : (((a0 : Nat) : Int) ≤ (1000000 : Int)) := by lia
theorem o128 {a0 : Nat} (h0 : (a0 ≤ (1000000 : Nat))) : (((a0 : Nat) : Int) ≤ (1000000 : Int)) := Int.ofNat_le.mpr h0
theorem o129 {a0 a1 a2 : Nat} (h0 : (a0 < (a1 - a2))) : ((a2 + a0) < a1) := by omega
theorem o130 {a0 a1 : Nat}  : ((((a0 : Nat) : Int) + (((a1 : Nat) : Int) * (1 : Int))) = (((a0 + a1) : Nat) : Int)) := by simp
theorem o131 {a0 a1 : Nat}  : ((a0 + (a1 + (1 : Nat))) = ((a0 + a1) + (1 : Nat))) := by lia
theorem o132 {a0 : Int} {a1 : Nat} (h0 : (a0 = ((a1 : Nat) : Int))) : ((0 : Int) ≤ a0) := by subst h0; lia
theorem o133 {a0 : Int} (h0 : ((0 : Int) ≤ a0)) : (¬ (a0 < (0 : Int))) := Int.not_lt.mpr h0
theorem o134 {a0 : Int} {a1 : Nat} (h0 : (a0 ≤ ((a1 : Nat) : Int))) : ((Int.toNat (max (0 : Int) (min a0 ((a1 : Nat) : Int)))) = (Int.toNat a0)) := by lia
theorem o135 {a0 a1 : Nat} (h0 : (a0 ≤ a1)) : (((0 : Int) ≤ ((a0 : Nat) : Int)) ∧ (((a0 : Nat) : Int) ≤ ((a1 : Nat) : Int))) := by simpa using h0
theorem o136 {a0 : Nat} (h0 : (¬ ((0 : Int) < ((a0 : Nat) : Int)))) : (a0 = (0 : Nat)) := by simpa using h0
theorem o137 {a0 a1 : Nat} (h0 : (a0 ≤ a1)) (h1 : ((0 : Int) < ((a0 : Nat) : Int))) : ((a0 - (1 : Nat)) < a1) := by lia
theorem o138 {a0 : Nat} (h0 : ((0 : Int) < ((a0 : Nat) : Int))) : ((((a0 : Nat) : Int) - (1 : Int)) = (((a0 - (1 : Nat)) : Nat) : Int)) := by lia
theorem o139 {a0 : Nat} (h0 : ((0 : Int) < ((a0 : Nat) : Int))) : ((a0 - (1 : Nat)) < a0) := by omega
theorem o140 {a0 a1 : Nat} (h0 : (a0 ≤ a1)) : ((a0 - (1 : Nat)) ≤ a1) := by omega
theorem o141 {a0 : Nat} (h0 : ((0 : Int) < ((a0 : Nat) : Int))) : ((((a0 - (1 : Nat)) : Nat) : Int) = (((a0 : Nat) : Int) - (1 : Int))) := by lia
theorem o142 {a0 a1 : Nat} (h0 : ((a0 - (1 : Nat)) ≤ a1)) (h1 : (¬ (a1 = (a0 - (1 : Nat))))) : (a0 ≤ a1) := by lia
theorem o143 {a0 : Nat}  : ((0 : Int) ≤ ((a0 : Nat) : Int)) := Int.natCast_nonneg _
theorem o144 {a0 : Nat} (h0 : (a0 ≤ (6 : Nat))) : (((a0 : Nat) : Int) ≤ (1000 : Int)) := by lia
theorem o145 {a0 : Int} (h0 : ((0 : Int) ≤ a0)) (h1 : (a0 ≤ (100000 : Int))) : ((Int.natAbs a0) < ((2 : Nat) ^ 64)) := by lia
theorem o146 {a0 : Int} (h0 : ((1 : Int) ≤ a0)) : ((0 : Int) < a0) := h0
theorem o147 {a0 a1 : Int} (h0 : ((a0 * (1 : Int)) ≤ a1)) : (a0 ≤ a1) := by simpa using h0
theorem o148 {a0 : Nat} (h0 : (a0 ≤ (1000000 : Nat))) : (a0 ≤ ((2 : Nat) ^ 20)) := Nat.le_trans h0 (by decide)
theorem o149 {a0 : Int} (h0 : ((0 : Int) ≤ a0)) (h1 : (a0 < (0 : Int))) : False := by omega
theorem o150 {a0 a1 a2 : Nat} (h0 : (a0 ≤ (64 : Nat))) (h1 : ((a1 + a2) = a0)) : (a1 ≤ (1000000 : Nat)) := by lia
theorem o151 {a0 : Int} (h0 : ((0 : Int) ≤ a0)) (h1 : (¬ ((0 : Int) < a0))) : (a0 = (0 : Int)) := by lia
theorem o152 {a0 : Int} (h0 : ((2 : Int) ≤ a0)) : ((1 : Int) ≤ a0) := Int.le_of_lt h0
theorem o153 {a0 a1 : Nat} (h0 : (a0 < a1)) : (a0 ≤ (a1 - (1 : Nat))) := by omega
theorem o154 {a0 a1 a2 a3 : Int} (h0 : (a0 < a1)) (h1 : (a2 ≤ a3)) (h2 : (a1 ≤ a2)) : (a0 < a3) := by lia
theorem o155 {a0 a1 : Nat} (h0 : (a0 < a1)) : ((min a0 a1) = a0) := by lia
theorem o156 {a0 a1 : Int} (h0 : (a0 < a1)) : ((a0 + (1 : Int)) ≤ a1) := h0
theorem o157 {a0 a1 a2 a3 a4 a5 a6 a7 : Int} (h0 : (a0 < a1)) (h1 : ((0 : Int) ≤ a2)) (h2 : (a3 ≤ a4)) (h3 : (a5 = ((a3 - a1) + a6))) (h4 : (a7 = (a4 + a6))) : ((a0 + a5) < (a2 + a7)) := by lia
theorem o158 {a0 : Nat} (h0 : (a0 ≤ (64 : Nat))) : (a0 ≤ (1000000 : Nat)) := Nat.le_trans h0 (by decide)
theorem o159 {a0 a1 : Nat} (h0 : (((a0 : Nat) : Int) < ((a1 : Nat) : Int))) : (a0 < a1) := by simpa using h0
theorem o160 {a0 a1 : Nat} (h0 : (¬ (((a0 : Nat) : Int) = ((a1 : Nat) : Int)))) (h1 : (¬ (((a0 : Nat) : Int) < ((a1 : Nat) : Int)))) : (a1 < a0) := by lia
theorem o161 {a0 a1 : Int} (h0 : (a0 < a1)) : (¬ (a1 < a0)) := by lia
theorem o162 {a0 a1 : Int} (h0 : (a0 < a1)) : (¬ (a1 = a0)) := Int.ne_of_gt h0
theorem o163 {a0 a1 : Nat} (h0 : (((a0 : Nat) : Int) = ((a1 : Nat) : Int))) : (a0 = a1) := by lia
theorem o164 {a0 a1 : Nat} (h0 : (a0 ≤ (64 : Nat))) (h1 : (((a1 : Nat) : Int) = ((a0 : Nat) : Int))) : (a1 ≤ (1000000 : Nat)) := by lia
theorem o165 {a0 a1 : Nat} (h0 : (((a0 : Nat) : Int) = ((a1 : Nat) : Int))) : (a1 ≤ a0) := by lia
theorem o166 {a0 a1 a2 : Nat} (h0 : (((a0 : Nat) : Int) = ((a1 : Nat) : Int))) (h1 : (a2 < a0)) : (a2 < a1) := by lia
theorem o167 {a0 a1 : Int} (h0 : (¬ (a0 = a1))) (h1 : (¬ (a0 < a1))) : (a1 < a0) := by lia
theorem o168 {a0 a1 : Int} (h0 : (a0 = a1)) : (a0 = a1) := by omega
theorem o169 {a0 a1 : Int} (h0 : (a0 = a1)) : (¬ (a0 < a1)) := by subst h0; lia
theorem o170 {a0 : Nat} (h0 : ((a0 - (1 : Nat)) < a0)) : (((a0 - (1 : Nat)) + (1 : Nat)) = a0) := by lia
theorem o171 {a0 : Nat}  : ((a0 - (1 : Nat)) ≤ a0) := by simp
theorem o172 {a0 a1 a2 : Int} (h0 : (a0 ≤ a1)) (h1 : (a2 < a0)) (h2 : (a1 = a2)) : False := by lia
theorem o173 {a0 a1 : Int} (h0 : ((0 : Int) < a0)) (h1 : (a0 < a1)) : (((0 : Int) ≤ a0) ∧ (a0 < a1)) := by lia
theorem o174 {a0 : Int} (h0 : ((0 : Int) < a0)) : (¬ (a0 = (0 : Int))) := by lia
theorem o175 {a0 a1 : Nat} (h0 : (a0 < a1)) : (a0 ≤ a1) := Nat.le_of_lt h0
theorem o176 {a0 a1 a2 : Int} (h0 : (a0 ≤ a1)) (h1 : (a2 ≤ a0)) : (a2 ≤ a1) := by lia
theorem o177 {a0 a1 a2 : Nat} (h0 : (a0 ≤ a1)) (h1 : (a2 = a0)) : (a2 ≤ a1) := by lia
theorem o178 {a0 a1 : Int} (h0 : ((2 : Int) ≤ a0)) (h1 : (a1 ≤ (1 : Int))) (h2 : ((0 : Int) < a1)) : (((0 : Int) < a1) ∧ (a1 < a0)) := by omega
theorem o179 {a0 a1 : Int} (h0 : ((0 : Int) ≤ a0)) : (a1 ≤ (a1 + a0)) := by lia
theorem o180 {a0 : Nat}  : ((0 : Nat) ≤ a0) := by simp
theorem o181  : (((0 : Int) ≤ (0 : Int)) ∧ ((0 : Int) ≤ (1 : Int))) := by decide
theorem o182 {a0 a1 a2 : Nat} (h0 : (a0 ≤ a1)) (h1 : (a2 < a0)) : (a2 < a1) := by lia
theorem o183 {a0 a1 a2 a3 : Nat} (h0 : (a0 ≤ a1)) (h1 : (a2 < a0)) (h2 : (a3 = a2)) : (a3 ≤ a1) := by lia
theorem o184 {a0 a1 a2 : Int} (h0 : ((0 : Int) ≤ a0)) (h1 : ((0 : Int) ≤ a1)) (h2 : ((0 : Int) ≤ a2)) : ((0 : Int) ≤ (a0 + (a1 + a2))) := by lia
theorem o185 {a0 a1 a2 a3 : Int} (h0 : (a0 ≤ (1 : Int))) (h1 : (a1 < a2)) (h2 : (a3 < a2)) : ((a0 + (a1 + a3)) < (((1 : Int) + (1 : Int)) * a2)) := by lia
theorem o186 {a0 a1 : Nat} (h0 : (a0 ≤ a1)) : (a0 ≤ a1) := by omega
theorem o187 {a0 a1 : Nat} (h0 : (a0 < a1)) : (a0 < a1) := by omega
theorem o188 {a0 a1 a2 : Int} (h0 : ((2 : Int) ≤ a0)) (h1 : (a1 ≤ (1 : Int))) (h2 : (a2 < a0)) : ((a1 + a2) < (((1 : Int) + (1 : Int)) * a0)) := by lia
theorem o189 {a0 a1 : Nat} (h0 : (a0 ≤ a1)) : (a0 ≤ (a1 + (1 : Nat))) := by lia
theorem o190 {a0 a1 : Nat} (h0 : (((a0 : Nat) : Int) < ((a1 : Nat) : Int))) : (a0 ≤ a1) := by lia
theorem o191 {a0 a1 : Nat} (h0 : (¬ (((a0 : Nat) : Int) < ((a1 : Nat) : Int)))) : (a1 ≤ a0) := by simpa using h0
theorem o192 {a0 a1 : Int} (h0 : ((0 : Int) ≤ a0)) (h1 : (a0 < a1)) : ((0 : Int) ≤ (a1 - (1 : Int))) := by lia
theorem o193 {a0 a1 a2 a3 : Int} (h0 : (a0 ≤ a1)) (h1 : (a1 = ((a2 - ((2 : Int) * a3)) + (1 : Int)))) : (a0 ≤ ((a2 - ((2 : Int) * a3)) + (1 : Int))) := by lia
theorem o194 {a0 a1 : Int} (h0 : ((0 : Int) ≤ a0)) (h1 : (a0 < a1)) (h2 : (a1 ≤ (64 : Int))) : ((Int.natAbs a0) < ((2 : Nat) ^ 64)) := by lia
theorem o195 {a0 : Int} (h0 : ((2 : Int) ≤ a0)) : (((0 : Int) ≤ (0 : Int)) ∧ ((0 : Int) < a0)) := by lia
theorem o196 {a0 a1 a2 a3 : Nat} (h0 : (a0 ≤ a1)) (h1 : (a2 = a3)) (h2 : (a3 ≤ a0)) : (a2 ≤ a1) := by lia
theorem o197 {a0 a1 a2 a3 : Int} (h0 : ((0 : Int) ≤ a0)) (h1 : (a0 < a1)) (h2 : (a2 ≤ ((a3 - ((2 : Int) * a1)) + (1 : Int)))) : ((a0 + a2) < a3) := by lia
theorem o198 {a0 a1 : Nat} (h0 : (a0 < a1)) : ((a0 + (1 : Nat)) ≤ a1) := h0
theorem o199 {a0 a1 : Int} (h0 : (a0 < a1)) (h1 : ((0 : Int) < a0)) : (((0 : Int) < a0) ∧ (a0 < a1)) := by lia
theorem o200 {a0 : Int} (h0 : ((0 : Int) ≤ a0)) (h1 : (¬ (a0 = (0 : Int)))) : ((1 : Int) ≤ a0) := by lia
theorem o201 {a0 a1 a2 : Int} (h0 : (a0 = (a1 + a2))) : (a0 = (a2 + a1)) := by subst h0; lia
theorem o202 {a0 a1 : Int} (h0 : ((0 : Int) ≤ a0)) (h1 : (a0 < a1)) : (a1 ≠ (0 : Int)) := by lia
theorem o203 {a0 a1 : Int}  : ((((0 : Int) + a0) = a0) ∧ (a1 = a1)) := by simp
theorem o204 {a0 : Nat} (h0 : ((2 : Nat) ≤ a0)) : ((1 : Nat) ≤ a0) := Nat.le_of_lt h0
theorem o205 {a0 a1 : Int} (h0 : (a0 < a1)) (h1 : (a1 ≤ (64 : Int))) : (a0 < ((2 : Int) ^ 64)) := by lia
theorem o206 {a0 a1 : Nat}  : ((-((a0 : Nat) : Int)) ≤ ((a1 : Nat) : Int)) := by simp
theorem o207 {a0 a1 : Nat} (h0 : (a0 ≤ a1)) : (((a0 : Nat) : Int) ≤ ((a1 : Nat) : Int)) := Int.ofNat_le.mpr h0
theorem o208 {a0 : Int} (h0 : ((0 : Int) < a0)) (h1 : (a0 = (0 : Int))) : False := by omega
theorem o209  : ((1 : Nat) ≤ (1000000 : Nat)) := by simp
theorem o210 {a0 : Int} (h0 : ((16 : Int) ≤ a0)) : ((0 : Int) < a0) := Int.lt_of_lt_of_le (by decide) h0
theorem o211 {a0 a1 a2 : Int} (h0 : (a0 < a1)) (h1 : (a1 ≤ (64 : Int))) (h2 : ((0 : Int) ≤ a2)) (h3 : (a2 < a0)) : ((Int.natAbs a2) < ((2 : Nat) ^ 64)) := by lia
theorem o212 {a0 a1 a2 : Nat} (h0 : (a0 < a1)) (h1 : (a2 = a1)) : (((a0 : Nat) : Int) < ((a2 : Nat) : Int)) := by lia
theorem o213 {a0 : Int} (h0 : ((16 : Int) ≤ a0)) : ((0 : Int) ≤ a0) := Int.le_trans (by decide) h0
theorem o214 {a0 a1 : Int} (h0 : ((0 : Int) ≤ a0)) (h1 : ((0 : Int) ≤ a1)) : ((0 : Int) ≤ (a1 + a0)) := by lia
theorem o215 {a0 a1 a2 a3 a4 : Int} (h0 : (a0 < a1)) (h1 : (a2 ≤ a3)) (h2 : (a3 = (a4 - a1))) : ((a2 + a0) < a4) := by lia
theorem o216 {a0 a1 a2 : Nat} (h0 : (a0 < a1)) (h1 : (a2 = a1)) : (a0 < a2) := by lia
theorem o217 {a0 : Nat}  : (a0 < (a0 + (1 : Nat))) := by simp
theorem o218 {a0 : Nat} (h0 : ((2 : Nat) ≤ a0)) : ((1 : Nat) ≤ (a0 - (1 : Nat))) := Nat.le_sub_one_of_lt (Nat.lt_of_lt_of_le (by decide) h0)
theorem o219  : ((2 : Nat) ≤ ((2 : Nat) ^ 20)) := by simp
theorem o220 {a0 : Nat} (h0 : ((4 : Nat) ≤ a0)) : ((0 : Int) < ((a0 : Nat) : Int)) := by lia
theorem o221 {a0 : Nat} (h0 : (a0 ≤ (6 : Nat))) : (((a0 : Nat) : Int) < ((2 : Int) ^ 64)) := by lia
theorem o222 {a0 a1 : Nat} (h0 : (a0 < a1)) : (((a0 : Nat) : Int) < ((a1 : Nat) : Int)) := Int.ofNat_lt.mpr h0
theorem o223  : ((1 : Nat) ≤ ((2 : Nat) ^ 20)) := by simp
theorem o224 {a0 : Nat}  : ((-((a0 : Nat) : Int)) ≤ (0 : Int)) := by simp
theorem o225 {a0 a1 : Nat} (h0 : (a0 < a1)) (h1 : (a1 ≤ (6 : Nat))) : (((a0 : Nat) : Int) ≤ (1000 : Int)) := by lia
theorem o226 {a0 : Nat} (h0 : (((a0 : Nat) : Int) = (0 : Int))) : (a0 = (0 : Nat)) := by simpa using h0
theorem o227 {a0 a1 a2 : Int} (h0 : (a0 < a1)) (h1 : (a2 < a0)) (h2 : ((0 : Int) < a2)) : (((0 : Int) < a2) ∧ (a2 < a1)) := by lia
theorem o228 {a0 : Nat} (h0 : (a0 ≤ (100 : Nat))) : (a0 ≤ (1000000 : Nat)) := Nat.le_trans h0 (by decide)
theorem o229 {a0 a1 : Nat} (h0 : (a0 < a1)) : ((0 : Int) ≤ (((a1 : Nat) : Int) - ((a0 : Nat) : Int))) := by lia
theorem o230 {a0 a1 : Nat} (h0 : (a0 ≤ (6 : Nat))) : ((((a0 : Nat) : Int) - ((a1 : Nat) : Int)) ≤ (1000 : Int)) := by lia
theorem o231 {a0 a1 : Nat} (h0 : (a0 < a1)) : (a1 = (a0 + (a1 - a0))) := by lia
theorem o232 {a0 a1 : Nat} (h0 : ((((a0 : Nat) : Int) + (1 : Int)) < ((a1 : Nat) : Int))) : ((a0 + (1 : Nat)) < a1) := Int.ofNat_lt.mp h0
theorem o233 {a0 : Nat}  : ((((a0 : Nat) : Int) + (1 : Int)) = (((a0 + (1 : Nat)) : Nat) : Int)) := by simp
theorem o234 {a0 a1 : Nat} (h0 : (¬ ((((a0 : Nat) : Int) + (1 : Int)) < ((a1 : Nat) : Int)))) : (a1 ≤ (a0 + (1 : Nat))) := by lia
theorem o235 {a0 : Nat} (h0 : (a0 ≤ (6 : Nat))) : ((Int.natAbs ((a0 : Nat) : Int)) < ((2 : Nat) ^ 64)) := by omega
theorem o236 {a0 : Int} (h0 : ((2 : Int) ≤ a0)) (h1 : (a0 < (2 : Int))) : False := by lia
theorem o237 {a0 a1 a2 a3 : Int} (h0 : (a0 < ((2 : Int) ^ 64))) (h1 : (a0 = (a1 + a2))) (h2 : ((0 : Int) ≤ a1)) (h3 : ((0 : Int) ≤ a3)) (h4 : (((1 : Int) * a3) ≤ a2)) : ((Int.natAbs a3) < ((2 : Nat) ^ 64)) := by lia
theorem o238 {a0 a1 a2 : Nat}  : ((-((a0 : Nat) : Int)) ≤ (((a1 : Nat) : Int) + ((a2 : Nat) : Int))) := by lia
theorem o239 {a0 a1 : Nat} (h0 : (a0 ≤ (64 : Nat))) (h1 : (a1 ≤ (64 : Nat))) : ((((a0 : Nat) : Int) + ((a1 : Nat) : Int)) ≤ ((((2 : Nat) ^ 20) : Nat) : Int)) := by lia
theorem o240 {a0 a1 : Nat}  : ((Int.toNat (((a0 : Nat) : Int) + ((a1 : Nat) : Int))) = (a0 + a1)) := by lia
theorem o241 {a0 a1 a2 a3 a4 : Nat} (h0 : (a0 < a1)) (h1 : (a2 = (a1 + a3))) (h2 : (a4 < a3)) : ((a0 + a4) < a2) := by lia
theorem o242 {a0 a1 a2 : Nat} (h0 : (a0 ≤ (64 : Nat))) (h1 : (a1 ≤ (64 : Nat))) (h2 : (a2 = (a0 + a1))) : (a2 ≤ ((2 : Nat) ^ 20)) := by lia
theorem o243 {a0 a1 : Nat}  : ((0 : Int) ≤ (((a0 : Nat) : Int) + ((a1 : Nat) : Int))) := Int.natCast_nonneg _
theorem o244 {a0 a1 a2 a3 a4 : Nat} (h0 : (a0 < a1)) (h1 : (a2 = (a1 + a3))) (h2 : (a4 < a3)) : ((((a0 : Nat) : Int) + ((a4 : Nat) : Int)) < ((a2 : Nat) : Int)) := by lia
theorem o245 {a0 a1 : Nat}  : ((((a0 : Nat) : Int) + ((a1 : Nat) : Int)) = (((a0 + a1) : Nat) : Int)) := by simp
theorem o246 {a0 a1 a2 a3 a4 : Int} (h0 : (a0 < a1)) (h1 : (a2 < a1)) (h2 : (a3 ≤ ((a4 - ((2 : Int) * a1)) + (1 : Int)))) : ((a0 + (a2 + a3)) < a4) := by lia
theorem o247 {a0 a1 a2 a3 : Nat} (h0 : (a0 < a1)) (h1 : ((a2 + a1) ≤ a3)) : ((a2 + a0) ≠ a3) := by lia
theorem o248 {a0 a1 a2 a3 : Nat} (h0 : (a0 < a1)) (h1 : (a2 = (a1 + a3))) : ((a0 + a3) < a2) := by lia
theorem o249 {a0 a1 a2 a3 : Nat} (h0 : (a0 < a1)) (h1 : (a2 = (a1 + a3))) : ((((a0 : Nat) : Int) + ((a3 : Nat) : Int)) < ((a2 : Nat) : Int)) := by lia
theorem o250 {a0 a1 a2 : Nat} (h0 : (((a0 + (1 : Nat)) + a1) ≤ a2)) : ((a0 + a1) ≠ a2) := by lia
theorem o251 {a0 a1 a2 : Nat} (h0 : (((a0 + (1 : Nat)) + a1) ≤ a2)) : ((a0 + a1) ≤ a2) := by lia
theorem o252 {a0 : Nat} (h0 : ((3 : Nat) ≤ a0)) : ((1 : Nat) ≤ a0) := Nat.le_trans (by decide) h0
theorem o253 {a0 : Nat} (h0 : ((3 : Nat) ≤ a0)) : ((2 : Nat) ≤ (a0 - (1 : Nat))) := Nat.le_sub_one_of_lt (Nat.lt_of_lt_of_le (by decide) h0)
theorem o254 {a0 a1 a2 : Int} (h0 : ((0 : Int) ≤ a0)) (h1 : ((0 : Int) ≤ a1)) (h2 : ((a1 + a0) = a2)) : ((0 : Int) ≤ a2) := by lia
theorem o255 {a0 : Int} (h0 : ((16 : Int) ≤ a0)) : (((0 : Int) ≤ (a0 - (1 : Int))) ∧ ((a0 - (1 : Int)) ≤ (a0 - (1 : Int)))) := by lia
theorem o256 {a0 a1 : Int} (h0 : ((0 : Int) ≤ a0)) (h1 : (¬ ((a1 - (1 : Int)) < a0))) : (((0 : Int) ≤ a0) ∧ (a0 ≤ (a1 - (1 : Int)))) := by lia
theorem o258 {a0 a1 : Int} (h0 : ((a0 - (1 : Int)) < a1)) : ((a0 - (1 : Int)) ≤ a1) := Int.le_of_lt h0
theorem o259 {a0 : Int}  : (a0 ≤ a0) := Int.le_refl _
theorem o260 {a0 a1 a2 a3 a4 a5 a6 : Int} (h0 : (a0 < a1)) (h1 : (a2 ≤ (a3 + a0))) (h2 : (a2 = (a4 + a5))) (h3 : ((0 : Int) ≤ a5)) (h4 : (a6 = (a3 + a1))) : (a4 < a6) := by lia
theorem o261 {a0 a1 : Int} (h0 : (a0 < (a1 + (1 : Int)))) : (a0 ≤ a1) := Int.le_of_lt_add_one h0
theorem o262 {a0 a1 : Int} (h0 : (a0 ≤ (a1 - (1 : Int)))) : (a0 ≤ (a1 - (1 : Int))) := by omega
theorem o263 {a0 a1 : Int} (h0 : (a0 ≤ a1)) : (a0 ≤ a1) := by omega
theorem o264 {a0 a1 : Int} (h0 : (a0 ≤ a1)) : ((0 : Int) ≤ (a1 - a0)) := Int.sub_nonneg_of_le h0
theorem o265 {a0 a1 : Int} (h0 : ((0 : Int) ≤ a0)) (h1 : (a0 ≤ (a1 - (1 : Int)))) : (((0 : Int) ≤ a0) ∧ (a0 < a1)) := by lia
theorem o266 {a0 a1 a2 a3 a4 : Int} (h0 : ((0 : Int) ≤ a0)) (h1 : (a0 < a1)) (h2 : (a2 ≤ ((a3 - ((2 : Int) * a1)) + (1 : Int)))) (h3 : (a3 ≤ a4)) : (a2 ≤ (a4 + a0)) := by lia
theorem o267 {a0 a1 a2 a3 a4 a5 : Int} (h0 : (a0 = (a1 + a2))) (h1 : (a1 = (a3 - a4))) (h2 : (a2 ≤ (a4 + a5))) : (a0 ≤ (a3 + a5)) := by subst h0; lia
theorem o268 {a0 a1 : Int} (h0 : (¬ (a0 < a1))) : (a1 ≤ a0) := Int.le_of_not_gt h0
theorem o269 {a0 a1 a2 : Int} (h0 : (¬ ((a0 + a1) < a2))) : (a2 ≤ (a0 + a1)) := Int.le_of_not_gt h0
theorem o270 {a0 a1 a2 a3 a4 a5 a6 a7 a8 : Int} (h0 : ((a0 + a1) < a2)) (h1 : (a3 ≤ (a4 + a1))) (h2 : (a5 ≤ a3)) (h3 : (a5 = (a6 + a2))) (h4 : (a6 = (a4 - a0))) : (a7 ≤ (a8 - (1 : Int))) := by lia
theorem o271  : ((0 : Int) ≤ (0 : Int)) := Int.natCast_nonneg _
theorem o272 {a0 : Int} (h0 : ((16 : Int) ≤ a0)) : ((0 : Int) ≤ (a0 - (1 : Int))) := by lia
theorem o273 {a0 a1 a2 a3 : Int} (h0 : ((0 : Int) ≤ a0)) (h1 : ((0 : Int) ≤ a1)) : (((0 : Int) * (a2 + a3)) ≤ (a1 + a0)) := by lia
theorem o274 {a0 : Int} (h0 : ((0 : Int) ≤ (a0 - (1 : Int)))) : ((Int.toNat (a0 - (1 : Int))) < (Int.toNat a0)) := by omega
theorem o275 {a0 : Int} (h0 : ((0 : Int) ≤ (a0 - (1 : Int)))) : ((0 : Int) ≤ (a0 - (1 : Int))) := by omega
theorem o276 {a0 a1 : Int} (h0 : (a0 ≤ (a1 - (1 : Int)))) : ((a0 - (1 : Int)) ≤ (a1 - (1 : Int))) := by lia
theorem o277 {a0 a1 : Int} (h0 : ((0 : Int) < a0)) (h1 : ((0 : Int) ≤ a1)) : ((0 : Int) ≤ (a1 + a0)) := by lia
theorem o278 {a0 a1 a2 : Nat} (h0 : (a0 ≤ a1)) : ((min a0 a2) ≤ a1) := by lia
theorem o279 {a0 : Int} (h0 : (a0 ≤ (64 : Int))) : (a0 < ((2 : Int) ^ 64)) := Int.lt_of_le_of_lt h0 (by decide)
theorem o280 {a0 a1 a2 : Nat} (h0 : ((a0 + a1) < a2)) (h1 : (a2 ≤ (10000 : Nat))) : (a1 ≤ (1000000 : Nat)) := by lia
theorem o281 {a0 : Int} (h0 : ((16 : Int) ≤ a0)) : (((0 : Int) ≤ (0 : Int)) ∧ ((0 : Int) ≤ a0)) := by lia
theorem o282 {a0 a1 a2 a3 a4 : Nat} (h0 : ((a0 + a1) < a2)) (h1 : (a3 = a2)) (h2 : (a4 < a1)) : ((a0 + a4) < a3) := by lia
theorem o283 {a0 a1 : Nat} (h0 : (a0 ≤ (10000 : Nat))) (h1 : (a1 = a0)) : (a1 ≤ ((2 : Nat) ^ 20)) := by lia
theorem o284 {a0 a1 a2 a3 a4 : Nat} (h0 : ((a0 + a1) < a2)) (h1 : (a3 = a2)) (h2 : (a4 < a1)) : ((((a0 : Nat) : Int) + ((a4 : Nat) : Int)) < ((a3 : Nat) : Int)) := by lia
theorem o285 {a0 a1 a2 a3 : Int} (h0 : ((16 : Int) ≤ a0)) (h1 : (a1 ≤ a0)) (h2 : (a2 ≤ ((a3 - ((2 : Int) * a0)) + (1 : Int)))) : ((a2 + a1) < a3) := by lia
theorem o286 {a0 a1 a2 a3 a4 : Int} (h0 : ((0 : Int) ≤ a0)) (h1 : (a0 < a1)) (h2 : (((a2 = (0 : Int)) ∧ (¬ ((a3 - a4) < (0 : Int)))) ∨ ((a2 = (1 : Int)) ∧ ((a3 - a4) < (0 : Int))))) : (((0 : Int) ≤ (a0 + a2)) ∧ ((a0 + a2) ≤ a1)) := by lia
theorem o287 {a0 a1 a2 : Int} (h0 : (a0 < a1)) (h1 : ((0 : Int) ≤ a2)) (h2 : (¬ ((a0 - a2) < (0 : Int)))) : (((0 : Int) ≤ ((a0 - a2) + ((0 : Int) * a1))) ∧ (((a0 - a2) + ((0 : Int) * a1)) < a1)) := by lia
theorem o288 {a0 a1 a2 : Int} (h0 : ((0 : Int) ≤ a0)) (h1 : (a1 < a2)) (h2 : ((a0 - a1) < (0 : Int))) : (((0 : Int) ≤ ((a0 - a1) + ((1 : Int) * a2))) ∧ (((a0 - a1) + ((1 : Int) * a2)) < a2)) := by lia
theorem o289 {a0 a1 : Nat}  : ((a0 + a1) < (a0 + (a1 + (1 : Nat)))) := by simp
theorem o290 {a0 a1 a2 a3 : Nat} (h0 : ((a0 + a1) < a2)) (h1 : (a3 = a2)) : ((a0 + a1) < a3) := by lia
theorem o291 {a0 a1 a2 a3 : Nat} (h0 : ((a0 + a1) < a2)) (h1 : (a3 = a2)) : ((((a0 : Nat) : Int) + ((a1 : Nat) : Int)) < ((a3 : Nat) : Int)) := by lia
theorem o292 {a0 a1 a2 : Int} (h0 : ((0 : Int) ≤ a0)) (h1 : (a1 < a2)) (h2 : (¬ ((a1 - a0) < (0 : Int)))) : (((0 : Int) ≤ ((a1 - a0) + ((0 : Int) * a2))) ∧ (((a1 - a0) + ((0 : Int) * a2)) < a2)) := by lia
theorem o293 {a0 a1 a2 : Int} (h0 : (a0 ≤ a1)) (h1 : ((0 : Int) ≤ a2)) (h2 : ((a2 - a0) < (0 : Int))) : (((0 : Int) ≤ ((a2 - a0) + ((1 : Int) * a1))) ∧ (((a2 - a0) + ((1 : Int) * a1)) < a1)) := by lia
theorem o294 {a0 a1 : Nat}  : ((a0 + a1) < ((a0 + a1) + (1 : Nat))) := by simp
theorem o295 {a0 a1 a2 : Int} (h0 : ((0 : Int) ≤ a0)) (h1 : ((0 : Int) ≤ a1)) (h2 : ((0 : Int) ≤ a2)) : ((0 : Int) ≤ (a0 + (a2 + a1))) := by lia
theorem o296 {a0 a1 a2 a3 : Int} (h0 : (a0 ≤ (1 : Int))) (h1 : (a1 < a2)) (h2 : (a3 < a2)) : ((a0 + (a3 + a1)) < ((2 : Int) * a2)) := by lia
theorem o297 {a0 : Int} (h0 : ((0 : Int) ≤ a0)) (h1 : (a0 < (2 : Int))) : (((0 : Int) ≤ a0) ∧ (a0 ≤ (1 : Int))) := by lia
theorem o298 {a0 a1 a2 : Int} (h0 : (a0 ≤ (1 : Int))) (h1 : ((0 : Int) ≤ a1)) (h2 : (a1 < a2)) : ((a1 + a0) < ((2 : Int) * a2)) := by lia
theorem o299 {a0 : Int} (h0 : ((0 : Int) ≤ a0)) (h1 : (a0 < (2 : Int))) : ((a0 = (0 : Int)) ∨ (a0 = (1 : Int))) := by lia
theorem o300 {a0 a1 a2 : Int} (h0 : ((0 : Int) ≤ a0)) (h1 : ((a1 * (1 : Int)) ≤ a2)) : (a1 ≤ (a0 + a2)) := by lia
theorem o301 {a0 a1 a2 a3 : Int} (h0 : (a0 = (a1 + a2))) (h1 : ((0 : Int) ≤ a1)) (h2 : (a3 ≤ a2)) (h3 : ((0 : Int) < a3)) : ((0 : Int) < a0) := by subst h0; lia
theorem o302 {a0 a1 a2 a3 a4 a5 a6 a7 : Int} (h0 : (a0 = (a1 + a2))) (h1 : (a1 < a3)) (h2 : (a4 ≤ a0)) (h3 : (a4 = (a5 + a6))) (h4 : ((0 : Int) ≤ a5)) (h5 : (a7 = (a2 + a3))) : (a6 < a7) := by subst h0; lia
theorem o303 {a0 a1 : Int} (h0 : (a0 < a1)) : (a0 ≤ a1) := Int.le_of_lt h0
theorem o304 {a0 : Int} (h0 : ((2 : Int) ≤ a0)) : ((0 : Int) ≤ (a0 - (1 : Int))) := by lia
theorem o305 {a0 a1 : Int} (h0 : ((a0 + (1 : Int)) < a1)) : ((a0 + (1 : Int)) ≤ (a1 - (1 : Int))) := by lia
theorem o306 {a0 a1 a2 a3 : Int} (h0 : (a0 = (a1 + a2))) (h1 : ((0 : Int) ≤ a1)) (h2 : (a3 ≤ a2)) : (a3 ≤ a0) := by subst h0; lia
theorem o307 {a0 a1 a2 a3 a4 a5 a6 a7 a8 a9 a10 a11 a12 a13 : Int} (h0 : ((0 : Int) ≤ a0)) (h1 : (a0 < a1)) (h2 : (a2 = (a3 + a4))) (h3 : ((0 : Int) ≤ a3)) (h4 : (a2 < a5)) (h5 : (a6 = (a7 + a8))) (h6 : (a8 ≤ a9)) (h7 : (a7 ≤ a10)) (h8 : (a10 = (a11 - a1))) (h9 : (a9 = a4)) (h10 : (a5 ≤ a12)) (h11 : (a12 = (a6 - a13))) (h12 : (a11 ≤ a13)) : False := by lia
theorem o308 {a0 a1 a2 a3 a4 a5 a6 : Int} (h0 : (a0 = (a1 + a2))) (h1 : (a0 = (a3 + a4))) (h2 : (a1 = (a3 + a5))) (h3 : (a2 = a6)) : (a4 = (a5 + a6)) := by subst h0; lia
theorem o309 {a0 a1 a2 a3 a4 a5 : Int} (h0 : (a0 < a1)) (h1 : (a1 < a2)) (h2 : (a0 = (a3 + a4))) (h3 : ((0 : Int) ≤ a3)) (h4 : ((a2 * (1 : Int)) ≤ a4)) : (a5 = (0 : Int)) := by lia
theorem o310 {a0 a1 : Nat}  : ((min a0 a1) ≤ a0) := by lia
theorem o311 {a0 a1 a2 a3 : Int} (h0 : (a0 = a1)) (h1 : (a1 < a2)) (h2 : (a2 ≤ a3)) : (a0 < a3) := by subst h0; lia
theorem o312 {a0 a1 : Nat} (h0 : (a0 < a1)) (h1 : (a1 ≤ (10000 : Nat))) : (a0 ≤ (1000000 : Nat)) := by lia
theorem o313 {a0 : Nat} (h0 : (a0 ≤ (10000 : Nat))) : (a0 ≤ (1000000 : Nat)) := Nat.le_trans h0 (by decide)
theorem o314 {a0 a1 : Nat} (h0 : (a0 < a1)) : (a1 = ((a1 - a0) + a0)) := by lia
theorem o315 {a0 a1 a2 : Nat} (h0 : (a0 < a1)) (h1 : (a1 = (a2 + a0))) : ((0 : Nat) < a2) := by lia
theorem o316 {a0 a1 a2 : Nat} (h0 : (a0 = (a1 + a2))) : ((a0 - a2) = a1) := by lia
theorem o317 {a0 a1 a2 : Nat} (h0 : (a0 = (a1 + a2))) : ((((a0 : Nat) : Int) - ((a2 : Nat) : Int)) = ((a1 : Nat) : Int)) := by subst h0; lia
theorem o318 {a0 a1 a2 : Nat} (h0 : (a0 ≤ (10000 : Nat))) (h1 : (a0 = (a1 + a2))) : (((a1 : Nat) : Int) ≤ ((((2 : Nat) ^ 20) : Nat) : Int)) := by lia
theorem o319 {a0 a1 a2 : Nat} (h0 : (a0 ≤ (10000 : Nat))) (h1 : (a0 = (a1 + a2))) : (a1 ≤ (1000000 : Nat)) := by lia
theorem o320 {a0 a1 a2 a3 a4 : Nat} (h0 : (a0 = (a1 + a2))) (h1 : (a3 < a1)) (h2 : (a4 = a0)) : (((a3 + a2) - (2 : Nat)) < a4) := by omega
theorem o321 {a0 a1 a2 a3 a4 : Nat} (h0 : (a0 = (a1 + a2))) (h1 : (a3 < a1)) (h2 : (a4 = a0)) : (((a3 + a2) - (1 : Nat)) < a4) := by omega
theorem o322 {a0 a1 a2 a3 a4 : Nat} (h0 : (a0 = (a1 + a2))) (h1 : (a3 < a1)) (h2 : (a4 = a0)) : ((a3 + a2) < a4) := by lia
theorem o323 {a0 : Nat} (h0 : ((2 : Nat) ≤ a0)) : ((a0 - (2 : Nat)) < a0) := by omega
theorem o324 {a0 a1 a2 a3 a4 : Nat} (h0 : ((2 : Nat) ≤ a0)) (h1 : (a1 = (a2 + a0))) (h2 : (a3 < a2)) (h3 : (a4 = a1)) : ((((a3 + a0) - (2 : Nat)) + (1 : Nat)) < a4) := by omega
theorem o325 {a0 a1 a2 a3 a4 : Nat} (h0 : ((2 : Nat) ≤ a0)) (h1 : (a1 = (a2 + a0))) (h2 : (a3 < a2)) (h3 : (a4 = a1)) : (((((a3 + a0) - (2 : Nat)) + (1 : Nat)) + (1 : Nat)) < a4) := by omega
theorem o326 {a0 a1 : Nat} (h0 : ((2 : Nat) ≤ a0)) : ((((a1 + a0) - (2 : Nat)) + (1 : Nat)) = ((a1 + a0) - (1 : Nat))) := by lia
theorem o327 {a0 a1 : Nat} (h0 : ((2 : Nat) ≤ a0)) : (((((a1 + a0) - (2 : Nat)) + (1 : Nat)) + (1 : Nat)) = (a1 + a0)) := by lia
theorem o328 {a0 a1 : Nat} (h0 : ((2 : Nat) ≤ a0)) : ((((a1 + a0) - (1 : Nat)) + (1 : Nat)) = (a1 + a0)) := by lia
theorem o329 {a0 a1 : Nat} (h0 : ((2 : Nat) ≤ a0)) : (((((a1 : Nat) : Int) + ((a0 : Nat) : Int)) - (2 : Int)) = ((((a1 + a0) - (2 : Nat)) : Nat) : Int)) := by lia
theorem o330 {a0 a1 : Nat}  : (((((a0 : Nat) : Int) + ((a1 : Nat) : Int)) + (1 : Int)) = ((((a0 + a1) + (1 : Nat)) : Nat) : Int)) := by simp
theorem o331 {a0 a1 a2 a3 a4 : Nat} (h0 : (a0 = (a1 + a2))) (h1 : (a3 < a1)) (h2 : (a4 = a0)) : (((a3 + a2) - (2 : Nat)) ≤ a4) := by subst h0; omega
theorem o332 {a0 a1 a2 a3 a4 : Nat} (h0 : (a0 = (a1 + a2))) (h1 : (a3 < a1)) (h2 : (a4 = a0)) : (((a3 + a2) + (1 : Nat)) ≤ a4) := by lia
theorem o333 {a0 a1 : Nat} (h0 : ((2 : Nat) ≤ a0)) : ((((a1 + a0) + (1 : Nat)) - ((a1 + a0) - (2 : Nat))) = (3 : Nat)) := by lia
theorem o334 {a0 : Nat} (h0 : ((2 : Nat) ≤ a0)) : ((((a0 : Nat) : Int) - (1 : Int)) = (((a0 - (1 : Nat)) : Nat) : Int)) := by lia
theorem o335 {a0 : Nat} (h0 : ((2 : Nat) ≤ a0)) : ((((a0 : Nat) : Int) - (2 : Int)) = (((a0 - (2 : Nat)) : Nat) : Int)) := by omega
theorem o336 {a0 a1 a2 a3 a4 : Nat} (h0 : (a0 = (a1 + a2))) (h1 : (a3 < a1)) (h2 : (a4 = a0)) : (a3 < a4) := by lia
theorem o337 {a0 a1 a2 a3 a4 a5 : Int} (h0 : (a0 < a1)) (h1 : (a2 = (a0 + a3))) (h2 : (a3 ≤ a4)) (h3 : (a4 = (a5 - a1))) : (a2 < a5) := by lia
theorem o338 {a0 a1 : Nat} (h0 : ((2 : Nat) ≤ a0)) : ((a1 + (a0 - (2 : Nat))) = ((a1 + a0) - (2 : Nat))) := by lia
theorem o339 {a0 a1 : Nat} (h0 : ((2 : Nat) ≤ a0)) : ((((a1 + a0) - (2 : Nat)) + (3 : Nat)) = ((a1 + (1 : Nat)) + a0)) := by lia
theorem o340 {a0 : Nat} (h0 : ((a0 - (2 : Nat)) < a0)) : ((a0 - (2 : Nat)) < a0) := by omega
theorem o341 {a0 : Nat} (h0 : ((2 : Nat) ≤ a0)) : (((a0 - (2 : Nat)) + (1 : Nat)) < a0) := by omega
theorem o342 {a0 : Nat}  : (a0 ≤ (((a0 - (2 : Nat)) + (1 : Nat)) + (1 : Nat))) := by omega
theorem o343 {a0 : Nat} (h0 : ((2 : Nat) ≤ a0)) : (((a0 - (2 : Nat)) + (1 : Nat)) = (a0 - (1 : Nat))) := by lia
theorem o344 {a0 a1 a2 a3 a4 : Nat} (h0 : (a0 = (a1 + a2))) (h1 : (a3 < a1)) (h2 : (a4 = a0)) : ((a2 - (2 : Nat)) ≤ (a4 - a3)) := by subst h0; omega
theorem o345 {a0 : Nat}  : ((a0 - (2 : Nat)) ≤ a0) := by simp
theorem o346 {a0 a1 : Int} (h0 : (a0 < a1)) (h1 : ((0 : Int) ≤ a0)) : ((0 : Int) < a1) := by lia
theorem o347 {a0 a1 a2 a3 : Nat} (h0 : (a0 ≤ (10000 : Nat))) (h1 : (a0 = (a1 + a2))) (h2 : (a3 = a1)) : (a3 ≤ ((2 : Nat) ^ 20)) := by lia
theorem o348 {a0 a1 : Int} (h0 : (a0 ≤ (a1 - (1 : Int)))) : (a0 < a1) := by lia
theorem o349 {a0 a1 : Nat} (h0 : (a0 < a1)) : (a1 ≠ a0) := Nat.ne_of_gt h0
theorem o350 {a0 a1 : Nat} (h0 : (a0 < a1)) : (a0 < (a1 + (1 : Nat))) := by lia
theorem o351 {a0 a1 a2 a3 a4 : Int} (h0 : (a0 < a1)) (h1 : (a1 = (a2 + a3))) (h2 : (a4 = (a0 - a2))) : (a4 < a3) := by lia
theorem o352 {a0 a1 : Nat} (h0 : (a0 ≤ (10000 : Nat))) (h1 : (a1 = a0)) : (a1 ≤ (10000 : Nat)) := by lia
theorem o353 {a0 a1 : Nat}  : (((a0 + a1) + (1 : Nat)) = ((a1 + (1 : Nat)) + a0)) := by lia
theorem o354 {a0 a1 : Nat}  : (((a0 + a1) + (1 : Nat)) = ((a0 + (1 : Nat)) + a1)) := by lia
theorem o355 (h0 : ((0 : Int) = (1 : Int))) : False := by simpa using h0
theorem o356 {a0 : Int} (h0 : ((0 : Int) ≤ a0)) : ((0 : Int) ≤ a0) := by omega
theorem o357 {a0 a1 a2 a3 a4 a5 a6 : Int} (h0 : (a0 < a1)) (h1 : ((0 : Int) ≤ a2)) (h2 : (a2 = (a0 + (((0 : Int) * a3) - a4)))) (h3 : (a1 ≤ a4)) : (a5 = a6) := by lia
theorem o358 {a0 a1 : Int} (h0 : (a0 ≤ a1)) (h1 : (a1 ≤ a0)) : (a1 = a0) := by lia
theorem o359 {a0 a1 a2 : Nat} (h0 : (a0 = a1)) (h1 : (a2 = a0)) : (a2 = a1) := by subst h0; omega
theorem o360 (h0 : (¬ ((1 : Int) = (1 : Int)))) : False := by simpa using h0
theorem o361 {a0 a1 : Int} (h0 : (a0 ≤ (a1 + (1 : Int)))) (h1 : (a1 < a0)) : ((a0 - (1 : Int)) = a1) := by lia
theorem o362 {a0 a1 a2 a3 a4 : Int} (h0 : (a0 ≤ a1)) (h1 : (a2 < a3)) (h2 : (a2 = (a1 + (((1 : Int) * a3) - a4)))) (h3 : (a4 ≤ a0)) : False := by lia
theorem o363 {a0 a1 a2 a3 a4 a5 : Nat} (h0 : (a0 = (a1 + a2))) (h1 : (a3 < a1)) (h2 : (a4 = a0)) (h3 : (a5 = a4)) : ((a3 + a2) < a5) := by lia
theorem o364 {a0 a1 a2 : Nat} (h0 : (a0 ≤ (10000 : Nat))) (h1 : (a1 = a0)) (h2 : (a2 = a1)) : (a2 ≤ (10000 : Nat)) := by lia
theorem o365 {a0 a1 : Int} (h0 : ((a0 - (1 : Int)) = a1)) : (a0 = (a1 + (1 : Int))) := by subst h0; lia
theorem o366 {a0 a1 a2 a3 a4 a5 a6 : Int} (h0 : (a0 ≤ a1)) (h1 : (a2 = (a1 + (((1 : Int) * a3) - a4)))) (h2 : (a5 < a3)) (h3 : (a4 = (a0 + a6))) (h4 : (a5 = (a2 + (a6 - ((0 : Int) * a3))))) : False := by lia
theorem o367 {a0 a1 a2 a3 : Nat} (h0 : (a0 = a1)) (h1 : (a2 = a0)) (h2 : (a3 = a2)) : (a3 = a1) := by subst h0; lia
theorem o368 {a0 a1 a2 a3 : Nat} (h0 : (a0 ≤ (10000 : Nat))) (h1 : (a0 = (a1 + a2))) (h2 : (a3 = a1)) : (a3 ≤ (10000 : Nat)) := by lia
theorem o369 {a0 : Nat} (h0 : ((0 : Int) < ((a0 : Nat) : Int))) : (a0 ≠ (0 : Nat)) := by lia
theorem o370 {a0 a1 : Nat} (h0 : (a0 < a1)) : ((a1 - (a0 + (1 : Nat))) < a1) := by omega
theorem o371 {a0 a1 : Nat} (h0 : (a0 < a1)) : ((((a1 : Nat) : Int) - (((a0 + (1 : Nat)) : Nat) : Int)) = (((a1 - (a0 + (1 : Nat))) : Nat) : Int)) := by omega
theorem o372 {a0 a1 : Nat} (h0 : (a0 < a1)) : (((a0 + (1 : Nat)) + (a1 - (a0 + (1 : Nat)))) = a1) := by omega
theorem o373 {a0 : Nat} (h0 : (a0 ≤ (1000 : Nat))) : (a0 ≤ (1000000 : Nat)) := Nat.le_trans h0 (by decide)
theorem o374 {a0 a1 a2 a3 a4 : Int} (h0 : (a0 < a1)) (h1 : (a2 = (a0 + a3))) (h2 : (a4 = (a3 + a1))) : (a2 < a4) := by lia
theorem o375 {a0 : Nat} (h0 : ((5 : Nat) ≤ a0)) : ((1 : Nat) ≤ a0) := Nat.le_trans (by decide) h0
theorem o376 {a0 : Int} (h0 : ((0 : Int) < a0)) (h1 : (a0 < ((2 : Int) ^ 64))) : (((0 : Int) ≤ a0) ∧ (a0 < ((2 : Int) ^ 64))) := by lia
theorem o377 {a0 : Nat} (h0 : (a0 ≤ (64 : Nat))) : (a0 ≤ (1000 : Nat)) := Nat.le_trans h0 (by decide)
theorem o378 {a0 : Nat} (h0 : (a0 ≠ (0 : Nat))) (h1 : (((a0 : Nat) : Int) = (0 : Int))) : False := by lia
theorem o379 {a0 : Nat} (h0 : ((5 : Nat) ≤ a0)) : ((1 : Nat) ≤ (a0 - (1 : Nat))) := Nat.le_sub_one_of_lt (Nat.lt_of_lt_of_le (by decide) h0)
theorem o380 {a0 a1 : Int} (h0 : ((0 : Int) < (0 : Int))) : (a0 < a1) := by omega
theorem o381 {a0 a1 : Int} (h0 : ((1 : Int) < (0 : Int))) : (a0 < a1) := by simpa using h0
theorem o382 {a0 : Nat} (h0 : (((a0 : Nat) : Int) = (1 : Int))) : (a0 = (1 : Nat)) := by lia
theorem o383 {a0 : Nat} (h0 : ((5 : Nat) ≤ a0)) : ((3 : Nat) ≤ (a0 - (1 : Nat))) := Nat.le_sub_one_of_lt (Nat.lt_of_lt_of_le (by decide) h0)
theorem o384 {a0 : Nat} (h0 : (¬ (((a0 : Nat) : Int) = (0 : Int)))) (h1 : (¬ (((a0 : Nat) : Int) = (1 : Int)))) : ((2 : Nat) ≤ a0) := by lia
theorem o385 {a0 : Nat} (h0 : ((2 : Nat) ≤ a0)) : ((a0 - (1 : Nat)) < a0) := by omega
theorem o386 {a0 a1 : Int} (h0 : ((0 : Int) ≤ a0)) (h1 : (a0 < a1)) (h2 : (a0 ≠ (0 : Int))) : (((0 : Int) < a0) ∧ (a0 < a1)) := by lia
theorem o387 {a0 a1 : Int} (h0 : ((0 : Int) ≤ a0)) (h1 : (a0 < a1)) : ((0 : Int) ≤ a1) := by lia
theorem o388 {a0 : Nat} (h0 : ((2 : Nat) ≤ a0)) : (a0 = ((a0 - (1 : Nat)) + (1 : Nat))) := by lia
theorem o389 {a0 a1 a2 a3 a4 : Int} (h0 : (a0 < a1)) (h1 : (a1 = a2)) (h2 : (a2 ≤ a3)) (h3 : (a4 = a3)) : (a0 < a4) := by lia
theorem o390 {a0 a1 : Int} {a2 a3 : Nat} (h0 : (a0 ≤ a1)) (h1 : (a1 < a0)) : (a2 ≤ a3) := by lia
theorem o391 {a0 : Int} (h0 : ((16 : Int) ≤ a0)) : ((1 : Int) ≤ a0) := Int.le_trans (by decide) h0
theorem o392 {a0 : Nat} (h0 : (a0 < (2 : Nat))) : (a0 ≤ (1 : Nat)) := by lia
theorem o393 {a0 a1 a2 a3 a4 : Int} (h0 : (a0 ≤ a1)) (h1 : (a2 < a3)) (h2 : (a3 ≤ a4)) (h3 : (a4 ≤ a0)) (h4 : ((a1 * (1 : Int)) ≤ a2)) : False := by lia
theorem o394 {a0 a1 : Nat} (h0 : (a0 ≤ (64 : Nat))) (h1 : (a1 ≤ (a0 + (1 : Nat)))) : (a1 ≤ (1000 : Nat)) := by lia
theorem o395 {a0 a1 a2 : Nat} (h0 : ((a0 + (1 : Nat)) = (a1 + a2))) : (((((a0 : Nat) : Int) + (1 : Int)) - ((a1 : Nat) : Int)) = ((a2 : Nat) : Int)) := by lia
theorem o396 {a0 a1 a2 : Nat} (h0 : (a0 ≤ (64 : Nat))) (h1 : ((a0 + (1 : Nat)) = (a1 + a2))) : (((a2 : Nat) : Int) ≤ ((((2 : Nat) ^ 20) : Nat) : Int)) := by lia
theorem o397 {a0 a1 a2 : Nat} (h0 : (a0 ≤ (64 : Nat))) (h1 : ((a0 + (1 : Nat)) = (a1 + a2))) : ((a1 + a2) ≤ (1000 : Nat)) := by lia
theorem o398 {a0 a1 : Int}  : ((a0 + (a1 * (0 : Int))) = a0) := by simp
theorem o399 {a0 a1 a2 : Nat} (h0 : ((a0 + (1 : Nat)) = (a1 + a2))) : ((a1 + a2) = (a0 + (1 : Nat))) := h0.symm
theorem o400 {a0 : Nat} (h0 : ((5 : Nat) ≤ a0)) : ((2 : Nat) ≤ (a0 - (1 : Nat))) := Nat.le_sub_one_of_lt (Nat.lt_of_lt_of_le (by decide) h0)
theorem o401 {a0 a1 a2 a3 : Nat} (h0 : (a0 ≤ a1)) (h1 : (a1 ≤ a2)) (h2 : (a3 = (a2 + (1 : Nat)))) : (a0 < a3) := by lia
theorem o402 {a0 a1 : Nat} (h0 : (a0 ≤ (64 : Nat))) (h1 : (a1 = (a0 + (1 : Nat)))) : (a1 ≤ (10000 : Nat)) := by lia
theorem o403 {a0 a1 a2 a3 : Nat} (h0 : (a0 ≤ a1)) (h1 : (a2 = (a3 + (1 : Nat)))) : (a3 ≤ ((a2 - a0) + (a1 - (1 : Nat)))) := by omega
theorem o404 {a0 a1 a2 a3 : Int} (h0 : (a0 < a1)) (h1 : (a1 ≤ a2)) (h2 : (a2 ≤ a3)) : (a0 < a3) := by lia
theorem o405 {a0 a1 a2 a3 a4 : Int} (h0 : ((0 : Int) ≤ a0)) (h1 : (a1 = (a0 + a2))) (h2 : (a1 < a3)) (h3 : (a3 = a4)) : (a2 < a4) := by lia
theorem o406 {a0 : Nat} (h0 : (a0 ≤ (10000 : Nat))) : (a0 ≤ ((2 : Nat) ^ 20)) := Nat.le_trans h0 (by decide)
theorem o407 {a0 a1 a2 : Nat} (h0 : (a0 ≤ (64 : Nat))) (h1 : (a1 = (a0 + (1 : Nat)))) (h2 : (a2 = a1)) : (a2 ≤ ((2 : Nat) ^ 20)) := by lia
theorem o408 {a0 : Int} (h0 : (a0 ≤ (64 : Int))) : (a0 ≤ (64 : Int)) := by omega
theorem o409 {a0 a1 a2 a3 : Int} (h0 : (a0 < ((2 : Int) ^ 64))) (h1 : (a1 < a0)) (h2 : (a2 ≤ a3)) (h3 : (a3 ≤ (a1 * (64 : Int)))) : (a2 < ((2 : Int) ^ 100)) := by lia
theorem o410 {a0 : Nat} (h0 : ((6 : Nat) ≤ a0)) : ((1 : Nat) ≤ a0) := Nat.le_trans (by decide) h0
theorem o411 {a0 : Nat} (h0 : ((6 : Nat) ≤ a0)) : ((2 : Nat) ≤ (a0 - (1 : Nat))) := Nat.le_sub_one_of_lt (Nat.lt_of_lt_of_le (by decide) h0)
theorem o412 {a0 : Nat} (h0 : ((6 : Nat) ≤ a0)) : ((1 : Nat) ≤ (a0 - (1 : Nat))) := Nat.le_sub_one_of_lt (Nat.lt_of_lt_of_le (by decide) h0)
theorem o413 {a0 : Int} (h0 : (a0 < ((2 : Int) ^ 20))) : (a0 < ((2 : Int) ^ 64)) := Int.lt_of_lt_of_le h0 (by decide)
theorem o414 {a0 : Nat} (h0 : ((6 : Nat) ≤ a0)) : ((5 : Nat) ≤ (a0 - (1 : Nat))) := Nat.le_sub_one_of_lt (Nat.lt_of_lt_of_le (by decide) h0)
theorem o415 {a0 : Int} (h0 : ((2 : Int) ≤ a0)) (h1 : (a0 < ((2 : Int) ^ 20))) : (((0 : Int) < a0) ∧ (a0 < ((2 : Int) ^ 64))) := by lia
theorem o416 {a0 a1 : Int} (h0 : (a0 < ((2 : Int) ^ 20))) (h1 : ((0 : Int) ≤ a1)) (h2 : (a1 < a0)) : (((0 : Int) ≤ a1) ∧ (a1 < ((2 : Int) ^ 64))) := by lia
theorem o417 {a0 : Nat} (h0 : ((7 : Nat) ≤ a0)) : ((1 : Nat) ≤ a0) := Nat.le_trans (by decide) h0
theorem o418 {a0 a1 a2 : Nat} (h0 : (a0 ≤ (64 : Nat))) (h1 : ((a1 + a2) = a0)) : (a1 ≤ (1000 : Nat)) := by lia
theorem o419 {a0 a1 : Int} (h0 : (a0 < ((2 : Int) ^ 64))) (h1 : (a1 ≤ a0)) : (a1 < ((2 : Int) ^ 64)) := by lia
theorem o420 {a0 : Nat} (h0 : ((7 : Nat) ≤ a0)) : ((6 : Nat) ≤ (a0 - (1 : Nat))) := Nat.le_sub_one_of_lt (Nat.lt_of_lt_of_le (by decide) h0)
theorem o421 {a0 a1 : Int} (h0 : (a0 < ((2 : Int) ^ 64))) (h1 : (a1 ≤ a0)) (h2 : ((0 : Int) < a1)) : (((0 : Int) ≤ a1) ∧ (a1 < ((2 : Int) ^ 64))) := by lia
theorem o422 {a0 a1 a2 : Int} (h0 : (a0 ≤ a1)) (h1 : (a2 < a0)) : (a2 ≤ a1) := by lia
theorem o423 {a0 : Int} (h0 : ((0 : Int) ≤ a0)) (h1 : (a0 < ((2 : Int) ^ 32))) : (((0 : Int) ≤ a0) ∧ (a0 < ((2 : Int) ^ 64))) := by lia
theorem o424 {a0 : Nat} (h0 : ((3 : Nat) ≤ a0)) : ((1 : Nat) ≤ (a0 - (1 : Nat))) := Nat.le_sub_one_of_lt (Nat.lt_of_lt_of_le (by decide) h0)
theorem o425 {a0 : Int} (h0 : ((2 : Int) ≤ a0)) : ((1 : Int) < a0) := h0
theorem o426 {a0 a1 : Int} (h0 : (a0 < a1)) (h1 : ((0 : Int) < a0)) : ((0 : Int) < a1) := by lia
theorem o427 {a0 : Nat} (h0 : (a0 ≤ (32 : Nat))) : (a0 ≤ (1000 : Nat)) := Nat.le_trans h0 (by decide)
theorem o428 {a0 : Int} (h0 : (a0 < ((2 : Int) ^ 64))) (h1 : ((0 : Int) < a0)) : (((0 : Int) ≤ a0) ∧ (a0 < ((2 : Int) ^ 64))) := by lia
theorem o429 {a0 a1 : Int} (h0 : (a0 = a1)) : (a0 ≤ a1) := Int.le_of_eq h0
theorem o430 {a0 a1 : Int} (h0 : ((1 : Int) ≤ (0 : Int))) : (a0 ≤ a1) := by simpa using h0
theorem o431 {a0 a1 a2 : Int} {a3 : Nat} (h0 : (a0 < ((2 : Int) ^ 32))) (h1 : (a1 < a2)) (h2 : (a2 ≤ a0)) (h3 : (((2 : Int) ^ 32) ≤ a1)) : (a3 < (32 : Nat)) := by lia
theorem o432 {a0 a1 : Int} (h0 : (a0 < a1)) (h1 : ((0 : Int) < a0)) : ((2 : Int) ≤ a1) := by lia
theorem o433 {a0 a1 : Int} (h0 : (a0 < ((2 : Int) ^ 32))) (h1 : (a1 ≤ a0)) : (a1 ≤ ((2 : Int) ^ 32)) := by lia
theorem o434 {a0 a1 : Int} (h0 : (a0 < ((2 : Int) ^ 32))) (h1 : (a1 ≤ a0)) : (a1 ≤ (((2 : Int) ^ 32) - (1 : Int))) := by lia
theorem o435 {a0 : Int} (h0 : (a0 ≤ ((((2 : Int) ^ 32) - (1 : Int)) * (((2 : Int) ^ 32) - (1 : Int))))) : (a0 < ((2 : Int) ^ 64)) := Int.lt_of_le_of_lt h0 (by decide)
theorem o436 {a0 a1 a2 : Int} (h0 : ((0 : Int) < a0)) (h1 : (a0 ≤ a1)) (h2 : (((2 : Int) * a0) ≤ a2)) : ((Int.toNat ((a1 + (1 : Int)) - a2)) < (Int.toNat ((a1 + (1 : Int)) - a0))) := by lia
theorem o437 {a0 : Nat} (h0 : (a0 < (32 : Nat))) : (a0 ≤ (31 : Nat)) := by lia
theorem o438 {a0 a1 : Nat} (h0 : (¬ (a0 < a1))) (h1 : ((a0 - a1) < (1 : Nat))) : (a0 = a1) := by lia
theorem o439 {a0 a1 a2 : Int} (h0 : (a0 < a1)) (h1 : (((2 : Int) * a1) ≤ a2)) : ((a0 * (2 : Int)) < a2) := by lia
theorem o440 {a0 a1 : Int} (h0 : (¬ (a0 < a1))) (h1 : (¬ (a0 = a1))) : (a1 < a0) := by lia
theorem o441 {a0 : Nat} (h0 : (a0 ≤ (32 : Nat))) : (a0 ≤ (64 : Nat)) := Nat.le_trans h0 (by decide)
theorem o442 {a0 a1 : Nat} (h0 : (a0 ≤ (1000 : Nat))) : ((-((((2 : Nat) ^ 20) : Nat) : Int)) ≤ (((a1 : Nat) : Int) - ((a0 : Nat) : Int))) := by lia
theorem o443 {a0 a1 : Nat} (h0 : (a0 ≤ (1000 : Nat))) : ((((a0 : Nat) : Int) - ((a1 : Nat) : Int)) ≤ ((((2 : Nat) ^ 20) : Nat) : Int)) := by lia
theorem o444 {a0 a1 : Nat} (h0 : (a0 ≤ (1000 : Nat))) (h1 : (a1 ≤ (1000 : Nat))) : (((a1 - a0) + a0) ≤ (1000 : Nat)) := by lia
theorem o445 {a0 : Nat}  : ((Int.toNat (max (0 : Int) (min ((-(1 : Int)) + ((a0 : Nat) : Int)) ((a0 : Nat) : Int)))) = (a0 - (1 : Nat))) := by lia
theorem o446 {a0 a1 a2 : Int}  : ((a0 + a1) = ((a0 + (a2 * (0 : Int))) + a1)) := by simp
theorem o447 {a0 : Nat} (h0 : (((8 : Nat) + (0 : Nat)) ≤ a0)) : ((1 : Nat) ≤ a0) := Nat.le_trans (by decide) h0
theorem o448 {a0 : Int} (h0 : (a0 < ((2 : Int) ^ 32))) : (a0 < ((2 : Int) ^ 64)) := Int.lt_of_lt_of_le h0 (by decide)
theorem o449 {a0 : Nat} (h0 : (a0 = (0 : Nat))) : (a0 ≤ (1000 : Nat)) := by rw [h0]; decide
theorem o450 {a0 : Nat} (h0 : (a0 = (0 : Nat))) : (((a0 : Nat) : Int) = (0 : Int)) := by simpa using h0
theorem o451 {a0 : Nat} (h0 : (((8 : Nat) + (0 : Nat)) ≤ a0)) : ((7 : Nat) ≤ (a0 - (1 : Nat))) := Nat.le_sub_one_of_lt (Nat.lt_of_lt_of_le (by decide) h0)
theorem o452 {a0 a1 : Nat} (h0 : (((8 : Nat) + (a0 + (1 : Nat))) ≤ a1)) : ((1 : Nat) ≤ a1) := by lia
theorem o453 {a0 a1 : Nat} (h0 : (a0 = (a1 + (1 : Nat)))) (h1 : ((a1 + (1 : Nat)) ≤ (64 : Nat))) : (a0 ≤ (1000 : Nat)) := by subst h0; lia
theorem o454 {a0 a1 : Nat} (h0 : (a0 = (a1 + (1 : Nat)))) : (((a0 : Nat) : Int) = (((a1 : Nat) : Int) + (1 : Int))) := by subst h0; lia
theorem o455 {a0 : Nat}  : (¬ ((((a0 : Nat) : Int) + (1 : Int)) = (0 : Int))) := by lia
theorem o456 {a0 a1 : Nat} (h0 : (((8 : Nat) + (a0 + (1 : Nat))) ≤ a1)) : ((7 : Nat) ≤ (a1 - (1 : Nat))) := by lia
theorem o457 {a0 a1 : Nat} (h0 : (a0 = (a1 + (1 : Nat)))) : (a1 < a0) := by subst h0; lia
theorem o458 {a0 a1 : Nat} (h0 : (a0 = (a1 + (1 : Nat)))) : ((a0 - (1 : Nat)) = a1) := by subst h0; lia
theorem o459 {a0 a1 : Nat} (h0 : (a0 = (a1 + (1 : Nat)))) : ((0 : Nat) < a0) := by subst h0; lia
theorem o460 {a0 a1 : Nat} (h0 : (a0 = (a1 + (1 : Nat)))) : ((min (a0 - (1 : Nat)) a0) = a1) := by subst h0; lia
theorem o461 {a0 : Nat} (h0 : ((a0 + (1 : Nat)) ≤ (64 : Nat))) : (a0 ≤ (64 : Nat)) := Nat.le_of_lt h0
theorem o462 {a0 : Nat}  : ((0 : Int) ≤ ((((a0 : Nat) : Int) + (1 : Int)) - (1 : Int))) := by simp
theorem o463 {a0 : Nat} (h0 : ((a0 + (1 : Nat)) ≤ (64 : Nat))) : (((((a0 : Nat) : Int) + (1 : Int)) - (1 : Int)) ≤ (1000 : Int)) := by lia
theorem o464 {a0 : Nat}  : ((Int.toNat ((((a0 : Nat) : Int) + (1 : Int)) - (1 : Int))) = a0) := by simp
theorem o465 {a0 a1 : Nat} (h0 : (((8 : Nat) + (a0 + (1 : Nat))) ≤ a1)) : ((1 : Nat) ≤ (a1 - (1 : Nat))) := by lia
theorem o466 {a0 a1 : Nat} (h0 : (((8 : Nat) + (a0 + (1 : Nat))) ≤ a1)) : (((8 : Nat) + a0) ≤ (a1 - (1 : Nat))) := by lia
theorem o467 {a0 a1 a2 : Int} {a3 : Nat} (h0 : (a0 < ((2 : Int) ^ 32))) (h1 : (a1 ≤ a0)) (h2 : (a2 ≤ a1)) (h3 : (((2 : Int) ^ 32) ≤ a2)) : (a3 < (32 : Nat)) := by lia
theorem o468 {a0 a1 : Int} (h0 : (a0 ≤ a1)) : (((1 : Int) * a0) ≤ a1) := by simpa using h0
theorem o469 {a0 a1 a2 : Int} (h0 : (a0 < a1)) (h1 : (a1 = a2)) : (a0 < a2) := by lia
theorem o470 {a0 : Int} (h0 : ((1 : Int) ≤ a0)) : ((0 : Int) ≤ a0) := Int.le_of_lt h0
theorem o471 {a0 a1 : Int} (h0 : (a0 < ((2 : Int) ^ 32))) (h1 : (a1 ≤ a0)) : (a1 < ((2 : Int) ^ 64)) := by lia
theorem o472 {a0 a1 : Nat} (h0 : (((8 : Nat) + (a0 + (1 : Nat))) ≤ a1)) : ((5 : Nat) ≤ (a1 - (1 : Nat))) := by lia
theorem o473 {a0 a1 : Int} (h0 : (a0 < ((2 : Int) ^ 32))) (h1 : (a1 ≤ a0)) : (a1 < ((2 : Int) ^ 32)) := by lia
theorem o474 {a0 a1 a2 : Int} (h0 : (a0 < ((2 : Int) ^ 32))) (h1 : (a1 ≤ a0)) (h2 : (a2 < a1)) : (a2 < ((2 : Int) ^ 32)) := by lia
theorem o475 {a0 a1 : Nat} (h0 : (a0 < (32 : Nat))) (h1 : (a1 ≤ a0)) : (a1 ≤ (1000 : Nat)) := by lia
theorem o476 {a0 : Nat} (h0 : (a0 < (32 : Nat))) : (a0 ≤ (1000 : Nat)) := by lia
theorem o477 {a0 a1 a2 : Nat} (h0 : (a0 < (32 : Nat))) (h1 : (a1 ≤ a0)) (h2 : (a2 ≤ (64 : Nat))) : ((a2 + ((a0 - a1) + a1)) ≤ (1000 : Nat)) := by lia
theorem o478 {a0 : Nat} (h0 : ((100 : Nat) ≤ a0)) : ((1 : Nat) ≤ a0) := Nat.le_trans (by decide) h0
theorem o479 {a0 : Nat} (h0 : ((100 : Nat) ≤ a0)) : ((1 : Nat) ≤ (a0 - (1 : Nat))) := Nat.le_sub_one_of_lt (Nat.lt_of_lt_of_le (by decide) h0)
theorem o480 {a0 : Nat} (h0 : ((100 : Nat) ≤ a0)) : ((3 : Nat) ≤ (a0 - (1 : Nat))) := Nat.le_sub_one_of_lt (Nat.lt_of_lt_of_le (by decide) h0)
theorem o481 {a0 a1 : Nat} (h0 : ((100 : Nat) ≤ a0)) (h1 : (a1 ≤ (64 : Nat))) : (((8 : Nat) + a1) ≤ (a0 - (1 : Nat))) := by lia
theorem o482  : ((0 : Nat) ≤ (64 : Nat)) := by simp
theorem o483 {a0 : Nat} (h0 : ((100 : Nat) ≤ a0)) : (((8 : Nat) + (0 : Nat)) ≤ (a0 - (1 : Nat))) := Nat.le_sub_one_of_lt (Nat.lt_of_lt_of_le (by decide) h0)
theorem o484 {a0 : Int} {a1 : Nat} (h0 : (¬ (a0 < ((a1 : Nat) : Int)))) : (((a1 : Nat) : Int) ≤ a0) := Int.le_of_not_gt h0
theorem o485 {a0 a1 : Int} (h0 : ((2 : Int) ≤ a0)) (h1 : (a0 < a1)) : (((0 : Int) ≤ a0) ∧ (a0 < a1)) := by lia
theorem o486 {a0 : Int} (h0 : ((2 : Int) ≤ a0)) (h1 : (a0 < ((2 : Int) ^ 20))) : (((0 : Int) ≤ a0) ∧ (a0 < ((2 : Int) ^ 64))) := by lia
theorem o487 {a0 a1 : Int}  : ((a0 + a1) = (a1 + a0)) := by lia
theorem o488 {a0 : Nat} (h0 : ((4 : Nat) ≤ a0)) : ((1 : Nat) ≤ a0) := Nat.le_trans (by decide) h0
theorem o489 {a0 : Nat} (h0 : ((4 : Nat) ≤ a0)) : ((3 : Nat) ≤ (a0 - (1 : Nat))) := Nat.le_sub_one_of_lt (Nat.lt_of_lt_of_le (by decide) h0)
theorem o490 {a0 a1 : Int} (h0 : ((0 : Int) ≤ a0)) (h1 : (a0 < a1)) (h2 : (a1 < ((2 : Int) ^ 60))) : (((0 : Int) ≤ a0) ∧ (a0 < ((2 : Int) ^ 64))) := by lia
theorem o491 {a0 : Nat} (h0 : ((4 : Nat) ≤ a0)) : ((1 : Nat) ≤ (a0 - (1 : Nat))) := Nat.le_sub_one_of_lt (Nat.lt_of_lt_of_le (by decide) h0)
theorem o492 {a0 a1 : Int} (h0 : (a0 < ((2 : Int) ^ 20))) (h1 : (a1 < a0)) : (a1 < ((2 : Int) ^ 64)) := by lia
theorem o493 {a0 a1 a2 : Int} (h0 : ((0 : Int) ≤ a0)) (h1 : ((a1 + a0) < a2)) (h2 : (a2 < ((2 : Int) ^ 60))) (h3 : ((0 : Int) ≤ a1)) : (((0 : Int) ≤ a1) ∧ (a1 < ((2 : Int) ^ 64))) := by lia
theorem o494 {a0 a1 : Nat} (h0 : (((6 : Nat) + a0) ≤ a1)) : ((1 : Nat) ≤ a1) := by lia
theorem o495 {a0 a1 : Nat} (h0 : (a0 = a1)) (h1 : (a1 ≤ (64 : Nat))) : (a0 ≤ (1000 : Nat)) := by subst h0; lia
theorem o496 {a0 a1 : Nat} (h0 : (a0 = a1)) : (((a0 : Nat) : Int) = ((a1 : Nat) : Int)) := by subst h0; lia
theorem o497 {a0 a1 : Nat} (h0 : (((6 : Nat) + a0) ≤ a1)) : ((4 : Nat) ≤ (a1 - (1 : Nat))) := by lia
theorem o498 {a0 : Nat} (h0 : (¬ ((((a0 : Nat) : Int) - (1 : Int)) < (0 : Int)))) : (a0 = ((a0 - (1 : Nat)) + (1 : Nat))) := by lia
theorem o499 {a0 : Nat}  : ((1 : Nat) ≤ (a0 + (1 : Nat))) := by simp
theorem o500 {a0 : Nat}  : ((0 : Int) ≤ ((((a0 + (1 : Nat)) : Nat) : Int) - (1 : Int))) := by simp
theorem o501 {a0 a1 : Nat} (h0 : (a0 ≤ (64 : Nat))) (h1 : ((a1 + (1 : Nat)) ≤ a0)) : (((((a1 + (1 : Nat)) : Nat) : Int) - (1 : Int)) ≤ (1000 : Int)) := by lia
theorem o502 {a0 : Nat}  : ((Int.toNat ((((a0 + (1 : Nat)) : Nat) : Int) - (1 : Int))) = a0) := by simp
theorem o503 {a2 : Int} {a0 a1 : Nat} (h0 : (a0 < a1)) (h1 : (a2 = ((a0 : Nat) : Int))) : ((((a1 : Nat) : Int) - a2) = (((a1 - a0) : Nat) : Int)) := by lia
theorem o504 {a0 a1 : Nat} (h0 : ((0 : Nat) < a0)) : ((a1 - a0) ≤ a1) := by simp
theorem o505 {a0 a1 : Nat} (h0 : ((0 : Nat) < a0)) : ((min (a1 - a0) a1) = (a1 - a0)) := by simp
theorem o506 {a0 a1 : Nat} (h0 : (a0 < a1)) (h1 : ((0 : Nat) < a0)) : ((a1 - (a1 - a0)) = a0) := by lia
theorem o507 {a0 a1 a2 : Nat} (h0 : (a0 = a1)) (h1 : (a2 < a0)) (h2 : ((0 : Nat) < a2)) : ((a0 - a2) < a1) := by subst h0; omega
theorem o508 {a0 a1 a2 a3 : Nat} (h0 : (((6 : Nat) + a0) ≤ a1)) (h1 : (a2 = a0)) (h2 : (a3 < a2)) (h3 : ((0 : Nat) < a3)) : (((6 : Nat) + (a2 - a3)) ≤ (a1 - (1 : Nat))) := by omega
theorem o509 {a0 a1 a2 : Nat} (h0 : (a0 ≤ (1000 : Nat))) (h1 : ((0 : Nat) < a1)) (h2 : (a2 = (a0 - a1))) : (a2 ≤ (1000 : Nat)) := by omega
theorem o510 {a0 a1 a2 : Nat} (h0 : (a0 = a1)) (h1 : (a2 < a0)) : (a2 < a1) := by subst h0; omega
theorem o511 {a0 a1 a2 a3 : Nat} (h0 : (((6 : Nat) + a0) ≤ a1)) (h1 : (a2 = a0)) (h2 : (a3 < a2)) : (((6 : Nat) + a3) ≤ (a1 - (1 : Nat))) := by lia
theorem o512 {a0 a1 a2 : Nat} (h0 : (a0 ≤ (1000 : Nat))) (h1 : (a1 < a0)) (h2 : (a2 = a1)) : (a2 ≤ (1000 : Nat)) := by lia
theorem o513 {a0 a1 a2 : Nat} (h0 : (a0 = a1)) (h1 : ((a2 + (1 : Nat)) ≤ a1)) : (a2 < a0) := by subst h0; lia
theorem o514 {a0 : Nat}  : (((((a0 + (1 : Nat)) : Nat) : Int) - (1 : Int)) = ((a0 : Nat) : Int)) := by simp
theorem o515 {a0 a1 : Nat} (h0 : (((6 : Nat) + a0) ≤ a1)) : ((2 : Nat) ≤ (a1 - (1 : Nat))) := by lia
theorem o516 {a0 : Int} (h0 : (a0 < ((2 : Int) ^ 60))) (h1 : ((0 : Int) < a0)) : (((0 : Int) ≤ a0) ∧ (a0 < ((2 : Int) ^ 64))) := by lia
theorem o517 {a0 a1 : Nat} (h0 : (((6 : Nat) + a0) ≤ a1)) : ((1 : Nat) ≤ (a1 - (1 : Nat))) := by lia
theorem o518 {a0 a1 a2 a3 : Int} (h0 : (a0 < ((2 : Int) ^ 60))) (h1 : ((0 : Int) ≤ a1)) (h2 : (a2 < a0)) (h3 : (a2 = (a3 + a1))) (h4 : ((0 : Int) ≤ a3)) : (((0 : Int) ≤ a3) ∧ (a3 < ((2 : Int) ^ 64))) := by lia
theorem o519 {a0 a1 a2 : Nat} (h0 : (¬ ((0 : Int) ≤ (((a0 : Nat) : Int) - (1 : Int))))) (h1 : ((1 : Nat) ≤ a0)) : (a1 < a2) := by lia
theorem o520 {a0 : Nat} (h0 : ((0 : Int) ≤ (((a0 : Nat) : Int) - (1 : Int)))) : (a0 = ((a0 - (1 : Nat)) + (1 : Nat))) := by lia
theorem o521 {a0 a1 : Nat} (h0 : ((a0 + (1 : Nat)) ≤ a1)) : (a0 ≤ a1) := Nat.le_of_lt h0
theorem o522 {a0 : Nat}  : ((((((a0 + (1 : Nat)) : Nat) : Int) - (1 : Int)) - (1 : Int)) = (((a0 : Nat) : Int) - (1 : Int))) := by simp
theorem o523 {a1 : Int} {a0 a2 : Nat} (h0 : (¬ (((a0 : Nat) : Int) ≤ a1))) (h1 : (a1 = ((a2 : Nat) : Int))) : (a2 < a0) := by lia
theorem o524 {a0 : Nat} (h0 : (a0 ≤ (60 : Nat))) : (a0 ≤ (1000 : Nat)) := Nat.le_trans h0 (by decide)
theorem o525 {a0 a1 : Nat} (h0 : ((100 : Nat) ≤ a0)) (h1 : (a1 ≤ (60 : Nat))) : (((6 : Nat) + a1) ≤ (a0 - (1 : Nat))) := by lia
theorem o526 {a0 : Int} (h0 : (¬ ((0 : Int) ≤ a0))) : (¬ ((0 : Int) ≤ a0)) := by omega
theorem o527 {a0 a1 : Int} (h0 : (¬ (a0 < a1))) : (¬ (a0 < a1)) := by omega
theorem o528 {a0 : Nat} (h0 : ((1 : Int) < ((a0 : Nat) : Int))) : ((1 : Nat) < a0) := Int.ofNat_lt.mp h0
theorem o529 {a0 : Int} {a1 : Nat} (h0 : (¬ ((1 : Int) > a0))) (h1 : (a0 < ((a1 : Nat) : Int))) : ((1 : Nat) < a1) := by lia
theorem o530 {a0 : Int} (h0 : (a0 < ((2 : Int) ^ 20))) : (a0 < ((2 : Int) ^ 60)) := Int.lt_of_lt_of_le h0 (by decide)
theorem o531 {a0 a1 a2 : Nat} (h0 : (a0 ≤ (60 : Nat))) (h1 : (a1 < a0)) (h2 : ((a2 - (1 : Nat)) < a1)) : (a2 ≤ (1000 : Nat)) := by lia
theorem o532 {a0 : Nat} (h0 : ((1 : Nat) ≤ a0)) : ((0 : Int) ≤ (((a0 : Nat) : Int) - (1 : Int))) := by lia
theorem o533 {a0 a1 a2 : Nat} (h0 : (a0 ≤ (60 : Nat))) (h1 : (a1 < a0)) (h2 : ((a2 - (1 : Nat)) < a1)) : ((((a2 : Nat) : Int) - (1 : Int)) ≤ (1000 : Int)) := by lia
theorem o534 {a0 : Nat}  : ((a0 * (2 : Nat)) = ((2 : Nat) * a0)) := by lia
theorem o535 {a0 a1 a2 : Nat} (h0 : (a0 = ((2 : Nat) * a1))) (h1 : (((2 : Int) * ((a1 : Nat) : Int)) < ((a2 : Nat) : Int))) : (a0 < a2) := by subst h0; lia
theorem o536 {a0 : Nat} (h0 : ((1 : Nat) ≤ a0)) : ((a0 - (1 : Nat)) < a0) := by omega
theorem o537 {a0 : Nat} (h0 : ((100 : Nat) ≤ a0)) : ((2 : Nat) ≤ (a0 - (1 : Nat))) := Nat.le_sub_one_of_lt (Nat.lt_of_lt_of_le (by decide) h0)
theorem o538 {a0 : Nat}  : ((a0 + a0) = ((2 : Nat) * a0)) := by lia
theorem o539 {a0 a1 a2 : Nat} (h0 : (a0 < a1)) (h1 : ((a2 - (1 : Nat)) < a0)) : ((a1 - (a2 + (1 : Nat))) < (a1 - a2)) := by omega
theorem o540 {a0 a1 a2 : Nat} (h0 : (a0 ≤ (60 : Nat))) (h1 : (a1 < a0)) (h2 : ((a2 - (1 : Nat)) < a1)) : (a2 ≤ (64 : Nat)) := by lia
theorem o541 {a0 : Int} (h0 : (a0 < ((2 : Int) ^ 60))) : (a0 < ((2 : Int) ^ 64)) := Int.lt_of_lt_of_le h0 (by decide)
theorem o542 {a0 : Int} {a1 : Nat} (h0 : ((0 : Int) ≤ a0)) (h1 : ((a0 + (1 : Int)) ≤ ((a1 : Nat) : Int))) : ((Int.toNat a0) < a1) := by lia
theorem o543 {a0 : Int} (h0 : ((0 : Int) ≤ a0)) : (((a0 + (1 : Int)) - (1 : Int)) = (((Int.toNat a0) : Nat) : Int)) := by lia
theorem o544 {a0 : Int} (h0 : ((0 : Int) ≤ a0)) (h1 : (a0 ≤ (10000 : Int))) : ((Int.natAbs (a0 + (1 : Int))) < ((2 : Nat) ^ 64)) := by omega
theorem o545 {a0 a1 : Nat} (h0 : (a0 ≤ a1)) (h1 : (a1 ≤ a0)) : (a0 = a1) := by lia
theorem o546 {a0 a1 : Nat} (h0 : (a0 ≤ (1000 : Nat))) (h1 : (a1 < a0)) : (((a1 : Nat) : Int) ≤ (1000 : Int)) := by lia
theorem o547 {a0 a1 : Nat} (h0 : (a0 < a1)) : ((1 : Nat) ≤ a1) := by lia
theorem o548 {a0 a1 : Int} (h0 : ((1 : Int) ≤ a0)) (h1 : (a1 < ((2 : Int) ^ 60))) (h2 : (a0 ≤ a1)) : ((Int.natAbs a0) < ((2 : Nat) ^ 64)) := by omega
theorem o549 {a0 a1 : Int} (h0 : (a0 < ((2 : Int) ^ 60))) (h1 : ((0 : Int) < a1)) (h2 : (a1 ≤ a0)) : ((Int.natAbs a1) < ((2 : Nat) ^ 64)) := by omega
theorem o550 {a0 : Int} (h0 : ((0 : Int) ≤ a0)) (h1 : (a0 < ((2 : Int) ^ 60))) : ((Int.natAbs a0) < ((2 : Nat) ^ 64)) := by lia
theorem o551 {a0 : Nat} (h0 : (a0 < (0 : Nat))) : False := by simpa using h0
theorem o552 {a0 a1 : Nat}  : ((a0 - a1) ≤ a0) := by simp
theorem o553 {a0 a1 a2 : Nat} (h0 : ((a0 - a1) ≤ a2)) (h1 : (a2 < a0)) : (((a0 - (1 : Nat)) - a2) < a1) := by omega
theorem o554 {a0 : Nat}  : ((a0 - a0) = (0 : Nat)) := by simp
theorem o555 {a0 a1 : Nat} (h0 : (a0 < a1)) : (((a1 - (1 : Nat)) - ((a1 - a0) - (1 : Nat))) = a0) := by omega
theorem o556 {a0 a1 : Nat} (h0 : (a0 ≤ a1)) : ((a1 - (a1 - a0)) = a0) := by lia
theorem o557 {a0 a1 : Nat} (h0 : (a0 ≤ a1)) (h1 : (¬ (((a0 : Nat) : Int) < ((a1 : Nat) : Int)))) : (a0 = a1) := by lia
theorem o558 {a0 a1 : Nat} (h0 : (((a0 : Nat) : Int) < ((a1 : Nat) : Int))) : ((a1 - (a0 + (1 : Nat))) < (a1 - a0)) := by lia
theorem o559 {a0 : Nat}  : ((((a0 + (1 : Nat)) : Nat) : Int) = (((a0 : Nat) : Int) + (1 : Int))) := by simp
theorem o560 {a0 a1 : Nat} (h0 : (((a0 : Nat) : Int) < ((a1 : Nat) : Int))) : ((a0 + (1 : Nat)) ≤ a1) := Int.ofNat_lt.mp h0
theorem o561 {a0 a1 : Nat} (h0 : (a0 < (a1 + (1 : Nat)))) (h1 : (¬ (a0 = a1))) : (a0 < a1) := by lia
theorem o562 {a0 : Nat} (h0 : ((1 : Nat) ≤ a0)) : (((a0 : Nat) : Int) > (0 : Int)) := Int.ofNat_lt.mpr h0
theorem o563 {a0 : Nat} (h0 : ((1 : Nat) ≤ a0)) : ((0 : Nat) < a0) := h0
theorem o564 {a0 : Nat}  : ((0 : Nat) < (a0 + (1 : Nat))) := by simp
theorem o565 {a0 : Nat} (h0 : ((0 : Nat) < a0)) : ((0 : Int) < ((a0 : Nat) : Int)) := Int.ofNat_lt.mpr h0
theorem o566 {a0 : Nat} (h0 : ((1 : Nat) ≤ a0)) : (((a0 : Nat) : Int) ≠ (0 : Int)) := by lia
theorem o567 {a0 : Nat}  : ((((a0 : Nat) : Int) - (1 : Int)) < ((a0 : Nat) : Int)) := by lia
theorem o568 {a0 : Nat}  : ((Int.toNat (((0 : Int) + ((a0 : Nat) : Int)) + (1 : Int))) = (a0 + (1 : Nat))) := by simp
theorem o569 {a0 : Nat} (h0 : (a0 ≤ (100 : Nat))) : ((Int.natAbs ((a0 : Nat) : Int)) < ((2 : Nat) ^ 40)) := by omega
theorem o570 {a0 a1 : Nat} (h0 : (a0 ≤ (100000 : Nat))) (h1 : ((a1 + (1 : Nat)) ≤ a0)) : ((a1 + (1 : Nat)) ≤ ((2 : Nat) ^ 20)) := by lia
theorem o571 {a0 a1 a2 : Nat} (h0 : (a0 ≤ (100 : Nat))) (h1 : (a1 ≤ (100000 : Nat))) (h2 : ((a2 + (1 : Nat)) ≤ a1)) : (((((((-((2 : Int) ^ 63)) ≤ (0 : Int)) ∧ ((0 : Int) < ((2 : Int) ^ 63))) ∧ (((-((2 : Int) ^ 63)) ≤ ((a1 : Nat) : Int)) ∧ (((a1 : Nat) : Int) < ((2 : Int) ^ 63)))) ∧ (((-((2 : Int) ^ 63)) ≤ ((a0 : Nat) : Int)) ∧ (((a0 : Nat) : Int) < ((2 : Int) ^ 63)))) ∧ (((-((2 : Int) ^ 63)) ≤ (((a2 + (1 : Nat)) : Nat) : Int)) ∧ ((((a2 + (1 : Nat)) : Nat) : Int) < ((2 : Int) ^ 63)))) ∧ (((((a2 + (1 : Nat)) : Nat) : Int) = (0 : Int)) ∨ (((-((2 : Int) ^ 63)) ≤ (((a1 : Nat) : Int) + (((a0 : Nat) : Int) - (1 : Int)))) ∧ ((((a1 : Nat) : Int) + (((a0 : Nat) : Int) - (1 : Int))) < ((2 : Int) ^ 63))))) := by lia
theorem o572 {a0 : Nat} (h0 : (a0 ≤ (100 : Nat))) : (a0 ≤ (1000 : Nat)) := Nat.le_trans h0 (by decide)
theorem o573 {a0 a1 a2 a3 : Nat} (h0 : (a0 < a1)) (h1 : ((a2 + a0) = a3)) : (((a1 - a0) + a3) = (a2 + (a1 * (1 : Nat)))) := by lia
theorem o574 {a0 : Nat} (h0 : ((1 : Nat) ≤ a0)) : ((0 : Int) < ((a0 : Nat) : Int)) := by lia
theorem o575 {a0 a1 : Nat} (h0 : (a0 < a1)) : ((1 : Nat) ≤ (a1 - a0)) := by lia
theorem o576 {a0 a1 : Nat} (h0 : (a0 < a1)) : ((((0 : Int) - ((a0 : Nat) : Int)) + ((a1 : Nat) : Int)) = (((a1 - a0) : Nat) : Int)) := by lia
theorem o577 {a0 a1 a2 : Nat}  : ((-((a0 : Nat) : Int)) ≤ (((a1 - a2) : Nat) : Int)) := by simp
theorem o578 {a0 a1 : Nat} (h0 : (a0 ≤ (100 : Nat))) : ((((a0 - a1) : Nat) : Int) ≤ ((((2 : Nat) ^ 20) : Nat) : Int)) := by lia
theorem o579 {a0 a1 a2 : Nat} (h0 : (a0 ≤ (100 : Nat))) (h1 : (a1 ≤ (100 : Nat))) : (((a0 - a2) + a1) ≤ (1000 : Nat)) := by lia
theorem o580 {a0 a1 a2 a3 : Nat} (h0 : (((a0 - a1) + a2) = a3)) : (((a0 - a1) + a2) = a3) := by omega
theorem o581 {a0 a1 : Int}  : ((((0 : Int) * a0) + a1) = a1) := by simp
theorem o582 {a0 a1 a2 a3 a4 : Nat} (h0 : (a0 ≤ (100 : Nat))) (h1 : (a1 ≤ (100 : Nat))) (h2 : (((a0 - a2) + a1) = a3)) (h3 : (a4 = a3)) : (a4 ≤ (1000 : Nat)) := by lia
theorem o583 {a0 a1 a2 a3 : Nat} (h0 : (a0 ≤ (100 : Nat))) (h1 : (a1 ≤ (100 : Nat))) (h2 : (((a0 - a2) + a1) = a3)) : (a3 ≤ (100000 : Nat)) := by lia
theorem o584 {a0 a1 a2 : Int} (h0 : ((2 : Int) ≤ a0)) (h1 : (a1 ≤ a2)) (h2 : (a1 = a0)) : ((2 : Int) ≤ a2) := by lia
theorem o585 {a0 a1 : Nat} (h0 : (a0 < (a1 + (1 : Nat)))) : ((a0 + (1 : Nat)) ≤ (a1 + (1 : Nat))) := h0
theorem o586 {a0 a1 a2 : Nat} (h0 : ((a0 + (a1 * (1 : Nat))) ≤ a2)) : ((a0 + a1) ≤ a2) := by simpa using h0
theorem o587 {a0 a1 a2 a3 : Nat} (h0 : (a0 = a1)) (h1 : ((a2 + a3) ≤ a1)) : (a2 ≤ a0) := by subst h0; lia
theorem o588 {a0 a1 a2 a3 : Nat} (h0 : (a0 = a1)) (h1 : ((a2 + a3) ≤ a1)) : ((a2 + a3) ≤ a0) := by subst h0; omega
theorem o589 {a0 a1 : Nat}  : (((a0 + a1) - a0) = a1) := by simp
theorem o590 {a0 a1 a2 a3 : Nat} (h0 : (a0 = a1)) (h1 : ((a2 + a3) ≤ a1)) : ((min a3 (a0 - a2)) = a3) := by subst h0; lia
theorem o591 {a0 a1 a2 : Int} (h0 : (a0 < ((2 : Int) ^ 20))) (h1 : (a1 ≤ a0)) (h2 : (a1 = a2)) : (a2 < ((2 : Int) ^ 60)) := by lia
theorem o592 {a0 a1 : Int} (h0 : (a0 < ((2 : Int) ^ 60))) (h1 : ((0 : Int) ≤ a1)) (h2 : (a1 < a0)) : (((0 : Int) ≤ a1) ∧ (a1 < ((2 : Int) ^ 60))) := by lia
theorem o593 {a0 a1 : Nat} (h0 : (a0 ≤ (100 : Nat))) (h1 : (a1 = a0)) : (a1 ≤ (1000 : Nat)) := by lia
theorem o594 {a0 a1 a2 a3 a4 a5 : Nat} (h0 : (a0 ≤ (100 : Nat))) (h1 : (a1 ≤ (100 : Nat))) (h2 : (((a0 - a2) + a1) = a3)) (h3 : (a4 = (a5 + (1 : Nat)))) (h4 : ((a5 + (1 : Nat)) ≤ a3)) : (a4 ≤ (1000 : Nat)) := by lia
theorem o595 {a0 a1 a2 : Int} (h0 : ((0 : Int) ≤ a0)) (h1 : (a0 < a1)) (h2 : (a1 ≤ a2)) (h3 : (a2 ≤ ((12 : Int) ^ 8))) : ((((0 : Int) ≤ a0) ∧ (a0 < ((2 : Int) ^ 32))) ∧ (a1 < ((2 : Int) ^ 60))) := by lia
theorem o596 {a0 a1 : Nat} (h0 : (a0 ≤ (4 : Nat))) (h1 : (a1 ≤ (4 : Nat))) : ((a0 + a1) ≤ (8 : Nat)) := by lia
theorem o597 {a0 : Int} (h0 : ((3 : Int) ≤ a0)) (h1 : (a0 ≤ (12 : Int))) : (((2 : Int) ≤ a0) ∧ (a0 ≤ (12 : Int))) := by lia
theorem o598 {a0 : Nat} (h0 : (a0 ≤ (8 : Nat))) : (a0 ≤ (1000 : Nat)) := Nat.le_trans h0 (by decide)
theorem o599 {a0 : Nat} (h0 : (a0 ≤ (4 : Nat))) : (a0 ≤ (1000 : Nat)) := Nat.le_trans h0 (by decide)
theorem o600 {a0 a1 : Nat} (h0 : (a0 ≤ (4 : Nat))) (h1 : (a1 ≤ (4 : Nat))) : ((a0 + a1) ≤ (1000 : Nat)) := by lia
theorem o601 {a0 : Nat} (h0 : ((200 : Nat) ≤ a0)) : ((100 : Nat) ≤ a0) := Nat.le_trans (by decide) h0
theorem o602 {a0 : Int} (h0 : ((3 : Int) ≤ a0)) (h1 : (a0 ≤ (12 : Int))) : (((2 : Int) ≤ a0) ∧ (a0 < ((2 : Int) ^ 20))) := by lia
theorem o603 {a0 : Nat} (h0 : ((200 : Nat) ≤ a0)) : ((1 : Nat) ≤ a0) := Nat.le_trans (by decide) h0
theorem o604 {a0 : Int} (h0 : ((3 : Int) ≤ a0)) : ((2 : Int) ≤ a0) := Int.le_of_lt h0
theorem o605 {a0 : Int} (h0 : ((3 : Int) ≤ a0)) (h1 : (a0 ≤ (12 : Int))) : ((Int.natAbs a0) < ((2 : Nat) ^ 64)) := by omega
theorem o606 {a0 : Int} (h0 : ((3 : Int) ≤ a0)) : ((0 : Int) ≤ a0) := Int.le_trans (by decide) h0
theorem o607 {a0 : Int} (h0 : (((3 : Int) * (3 : Int)) ≤ a0)) (h1 : (a0 ≤ ((12 : Int) * (12 : Int)))) : (((9 : Int) ≤ a0) ∧ (a0 ≤ (144 : Int))) := by lia
theorem o608 {a0 : Int} (h0 : ((9 : Int) ≤ a0)) (h1 : (a0 ≤ (144 : Int))) : (((2 : Int) ≤ a0) ∧ (a0 < ((2 : Int) ^ 20))) := by lia
theorem o609 {a0 : Nat} (h0 : ((200 : Nat) ≤ a0)) : ((2 : Nat) ≤ a0) := Nat.le_trans (by decide) h0
theorem o610  : (((1 : Nat) ≤ (2 : Nat)) ∧ ((2 : Nat) ≤ (100 : Nat))) := by decide
theorem o611 {a0 : Int} (h0 : (a0 ≤ (144 : Int))) : (a0 < ((2 : Int) ^ 20)) := Int.lt_of_le_of_lt h0 (by decide)
theorem o612 {a0 : Nat} (h0 : (a0 ≤ (8 : Nat))) : (a0 ≤ (100 : Nat)) := Nat.le_trans h0 (by decide)
theorem o613  : (((2 : Int) ≤ (2 : Int)) ∧ ((2 : Int) < ((2 : Int) ^ 20))) := by decide
theorem o614 {a0 : Nat} (h0 : (a0 ≤ (5 : Nat))) : (((a0 : Nat) : Int) ≤ (1000 : Int)) := by lia
theorem o615 {a0 : Int} (h0 : (((2 : Int) ^ 1) ≤ a0)) (h1 : (a0 ≤ ((2 : Int) ^ 5))) : (((2 : Int) ≤ a0) ∧ (a0 ≤ (32 : Int))) := by lia
theorem o616 {a0 : Int} (h0 : ((2 : Int) ≤ a0)) (h1 : (a0 ≤ (32 : Int))) : (((2 : Int) ≤ a0) ∧ (a0 < ((2 : Int) ^ 20))) := by lia
theorem o617 {a0 : Nat} (h0 : (a0 ≤ (32 : Nat))) : (a0 ≤ (100 : Nat)) := Nat.le_trans h0 (by decide)
theorem o618 {a0 : Nat} (h0 : ((1 : Nat) ≤ a0)) (h1 : (a0 ≤ (5 : Nat))) : (((1 : Nat) ≤ a0) ∧ (a0 ≤ (100 : Nat))) := by lia
theorem o619 {a0 : Int} (h0 : (a0 ≤ (32 : Int))) : (a0 < ((2 : Int) ^ 20)) := Int.lt_of_le_of_lt h0 (by decide)
theorem o620 {a0 : Int} (h0 : ((3 : Int) ≤ a0)) (h1 : (a0 ≤ (50 : Int))) : (((2 : Int) ≤ a0) ∧ (a0 < ((2 : Int) ^ 20))) := by lia
theorem o621 {a0 a1 : Int} (h0 : (a0 = a1)) (h1 : (a1 ≤ (((2 : Int) ^ 32) * (50 : Int)))) : (a0 < ((2 : Int) ^ 60)) := by subst h0; lia
theorem o622 {a0 : Nat} (h0 : (a0 ≤ (32 : Nat))) : (a0 ≤ (60 : Nat)) := Nat.le_trans h0 (by decide)
theorem o623 {a0 : Nat}  : (((Int.toNat (max (0 : Int) (min (1 : Int) ((a0 : Nat) : Int)))) - (0 : Nat)) ≤ (1 : Nat)) := by lia
theorem o624 {a0 a1 : Int} (h0 : (a0 ≤ (12 : Int))) (h1 : ((0 : Int) ≤ a1)) (h2 : (a1 < a0)) : (((0 : Int) ≤ a1) ∧ (a1 < ((2 : Int) ^ 60))) := by lia
theorem o625 {a0 : Int} (h0 : ((3 : Int) ≤ a0)) : ((1 : Int) ≤ a0) := Int.le_trans (by decide) h0
theorem o626  : (((0 : Nat) + (1 : Nat)) ≤ (1000 : Nat)) := by decide
theorem o627  : ((((0 : Nat) + (1 : Nat)) + (1 : Nat)) ≤ (1000 : Nat)) := by decide
theorem o628  : (((((((0 : Nat) + (1 : Nat)) + (1 : Nat)) + (1 : Nat)) + (1 : Nat)) + (1 : Nat)) ≤ (1000 : Nat)) := by decide
theorem o629 {a0 : Nat} (h0 : (a0 ≤ (4 : Nat))) : ((((0 : Nat) + (1 : Nat)) + a0) ≤ (1000 : Nat)) := by lia
theorem o630 {a0 : Nat} (h0 : (a0 ≤ (4 : Nat))) : (((((0 : Nat) + (1 : Nat)) + (1 : Nat)) + a0) ≤ (1000 : Nat)) := by lia
theorem o631 {a0 : Nat} (h0 : (a0 ≤ (4 : Nat))) : (a0 ≤ (8 : Nat)) := Nat.le_trans h0 (by decide)
theorem o632 {a0 : Nat} (h0 : (a0 ≤ (4 : Nat))) : (a0 ≤ (7 : Nat)) := Nat.le_trans h0 (by decide)
theorem o633 {a0 : Int} (h0 : ((3 : Int) ≤ a0)) : (((0 : Int) ≤ (1 : Int)) ∧ ((1 : Int) < a0)) := by lia
theorem o634 {a0 : Int} (h0 : ((3 : Int) ≤ a0)) : ((0 : Int) < a0) := Int.lt_of_lt_of_le (by decide) h0
theorem o635 {a0 : Nat} (h0 : (a0 ≤ (4 : Nat))) : (a0 ≤ (6 : Nat)) := Nat.le_trans h0 (by decide)
theorem o636 {a0 : Int} (h0 : ((3 : Int) ≤ a0)) : (((0 : Int) ≤ (0 : Int)) ∧ ((0 : Int) < a0)) := by lia
theorem o637 {a0 : Nat} (h0 : (a0 ≤ (8 : Nat))) : (a0 ≤ (60 : Nat)) := Nat.le_trans h0 (by decide)
theorem o638 {a0 a1 : Nat} (h0 : (a0 = (5 : Nat))) (h1 : (a1 = (5 : Nat))) : (a0 ≤ a1) := by subst h0; lia
theorem o639 {a0 : Nat} (h0 : (a0 = (5 : Nat))) : (a0 ≤ (1000 : Nat)) := by rw [h0]; decide
theorem o640 {a0 a1 a2 : Int} (h0 : (a0 = (a1 + a2))) (h1 : ((0 : Int) ≤ a2)) (h2 : (a0 < ((2 : Int) ^ 32))) (h3 : ((0 : Int) ≤ a1)) : (((0 : Int) ≤ a1) ∧ (a1 < ((2 : Int) ^ 64))) := by subst h0; lia
theorem o641 {a0 : Int}  : ((Int.toNat (a0 - (0 : Int))) = (Int.toNat a0)) := by simp
theorem o642  : ((0 : Nat) ≤ (4 : Nat)) := by simp
theorem o643 {a0 : Int} {a1 : Nat} (h0 : (a0 ≤ (5000 : Int))) (h1 : (a1 ≤ (4 : Nat))) : ((a0 + ((a1 : Nat) : Int)) ≤ (10000 : Int)) := by lia
theorem o644 {a0 : Int} {a1 : Nat} (h0 : (a0 < (5 : Int))) (h1 : (a1 < (Int.toNat a0))) : ((a1 + (1 : Nat)) ≤ (4 : Nat)) := by lia
theorem o645 {a0 : Int} {a1 : Nat}  : ((a0 + (((a1 + (1 : Nat)) : Nat) : Int)) = ((a0 + ((a1 : Nat) : Int)) + (1 : Int))) := by lia
theorem o646 {a1 : Int} {a0 : Nat} (h0 : (a0 = (Int.toNat a1))) (h1 : ((Int.toNat a1) ≤ (4 : Nat))) : (a0 ≤ (4 : Nat)) := by subst h0; omega
theorem o647 {a0 a1 : Int} (h0 : ((Int.toNat a0) ≤ (4 : Nat))) : ((a1 + (((Int.toNat a0) : Nat) : Int)) ≤ (a1 + (5 : Int))) := by lia
theorem o648  : ((1 : Nat) ≤ (600 : Nat)) := by simp
theorem o649 {a0 : Nat} (h0 : (a0 ≤ (63 : Nat))) : (a0 ≤ (1000 : Nat)) := Nat.le_trans h0 (by decide)
theorem o650  : (((((0 : Nat) + (1 : Nat)) + (1 : Nat)) + (1 : Nat)) ≤ (1000 : Nat)) := by decide
theorem o651 {a0 a1 a2 : Nat} (h0 : (a0 ≤ (63 : Nat))) : ((min (a1 - a2) (a0 - a2)) ≤ (63 : Nat)) := by lia
theorem o652 {a0 a1 : Nat} (h0 : (a0 ≤ (63 : Nat))) (h1 : (a1 = a0)) : (a1 ≤ (1000 : Nat)) := by lia
theorem o653  : ((1 : Nat) ≤ (599 : Nat)) := by simp
theorem o654  : ((0 : Int) ≤ (10000 : Int)) := Int.natCast_nonneg _
theorem o655  : ((0 : Int) < (3 : Int)) := Int.natCast_nonneg _
theorem o656  : (((0 : Int) + (1 : Int)) ≤ (10000 : Int)) := Int.natCast_nonneg _
theorem o657  : ((0 : Int) < (10 : Int)) := Int.natCast_nonneg _
theorem o658  : ((((0 : Int) + (1 : Int)) + (1 : Int)) ≤ (10000 : Int)) := Int.natCast_nonneg _
theorem o659  : (((((0 : Int) + (1 : Int)) + (1 : Int)) + (1 : Int)) ≤ (10000 : Int)) := Int.natCast_nonneg _
theorem o660 {a0 : Int} (h0 : ((0 : Int) ≤ a0)) (h1 : (a0 < (3 : Int))) : ((a0 = (0 : Int)) ∨ ((a0 = (1 : Int)) ∨ (a0 = (2 : Int)))) := by lia
theorem o661  : (((1 : Nat) ≤ (2 : Nat)) ∧ ((2 : Nat) ≤ (5 : Nat))) := by decide
theorem o662  : (((1 : Nat) ≤ (3 : Nat)) ∧ ((3 : Nat) ≤ (5 : Nat))) := by decide
theorem o663  : (((1 : Nat) ≤ (5 : Nat)) ∧ ((5 : Nat) ≤ (5 : Nat))) := by decide
theorem o664  : ((((((0 : Int) + (1 : Int)) + (1 : Int)) + (1 : Int)) + (1 : Int)) ≤ (10000 : Int)) := Int.natCast_nonneg _
theorem o665  : ((0 : Int) < (40 : Int)) := Int.natCast_nonneg _
theorem o666 {a0 : Int} (h0 : ((0 : Int) ≤ a0)) : (((4 : Int) + a0) = (((Int.toNat ((4 : Int) + a0)) : Nat) : Int)) := by lia
theorem o667 {a0 : Int} {a1 : Nat} (h0 : ((0 : Int) ≤ a0)) (h1 : (a0 < (3 : Int))) (h2 : (((4 : Int) + a0) = ((a1 : Nat) : Int))) : (((4 : Nat) ≤ a1) ∧ (a1 ≤ (6 : Nat))) := by lia
theorem o668  : (((((((0 : Int) + (1 : Int)) + (1 : Int)) + (1 : Int)) + (1 : Int)) + (1 : Int)) ≤ (10000 : Int)) := Int.natCast_nonneg _
theorem o669  : ((0 : Int) < (5 : Int)) := Int.natCast_nonneg _
theorem o670  : ((-(1 : Int)) ≤ (0 : Int)) := Int.natCast_nonneg _
theorem o671  : ((0 : Int) ≤ (1000000 : Int)) := Int.natCast_nonneg _
theorem o672 {a0 : Int} (h0 : ((0 : Int) ≤ a0)) : ((-(1 : Int)) ≤ a0) := Int.le_of_lt h0
theorem o673 {a0 : Int} (h0 : (a0 < (5 : Int))) : (a0 ≤ (1000000 : Int)) := by lia
theorem o674  : ((((((((0 : Int) + (1 : Int)) + (1 : Int)) + (1 : Int)) + (1 : Int)) + (1 : Int)) + (1 : Int)) ≤ (5000 : Int)) := Int.natCast_nonneg _
theorem o675 {a0 : Int} (h0 : ((0 : Int) ≤ a0)) : ((0 : Int) < ((3 : Int) + a0)) := by lia
theorem o676 {a0 : Int} (h0 : (a0 ≤ ((((((((0 : Int) + (1 : Int)) + (1 : Int)) + (1 : Int)) + (1 : Int)) + (1 : Int)) + (1 : Int)) + (5 : Int)))) : (a0 ≤ (10000 : Int)) := Int.le_trans h0 (by decide)
theorem o677 {a0 : Int} (h0 : (a0 ≤ ((((((((0 : Int) + (1 : Int)) + (1 : Int)) + (1 : Int)) + (1 : Int)) + (1 : Int)) + (1 : Int)) + (5 : Int)))) : ((a0 + (1 : Int)) ≤ (5000 : Int)) := Int.lt_of_le_of_lt h0 (by decide)
theorem o678  : ((200 : Nat) ≤ (599 : Nat)) := by simp
theorem o679 {a0 : Int} (h0 : ((0 : Int) ≤ a0)) (h1 : (a0 < (10 : Int))) : (((3 : Int) ≤ ((3 : Int) + a0)) ∧ (((3 : Int) + a0) ≤ (12 : Int))) := by lia
theorem o680 {a0 : Int} (h0 : ((0 : Int) ≤ a0)) (h1 : (a0 < (40 : Int))) : (((3 : Int) ≤ ((3 : Int) + a0)) ∧ (((3 : Int) + a0) ≤ (50 : Int))) := by lia
end Mine
end
section
open PySem PySem.Calls PySem.W PyProof.Rows PySem.Spec
set_option maxRecDepth 100000
namespace Mine
theorem il_canLay (is : List Int) : PyData.canLayAll0 (is.map PyData.int) = true := by
  induction is with
  | nil => rfl
  | cons _ _ ih => simp [PyData.canLayAll0, PyData.canLay0, ih]
theorem il_depth (is : List Int) : PyData.depthAll (is.map PyData.int) = 0 := by
  induction is with
  | nil => rfl
  | cons _ _ ih => simp [PyData.depthAll, PyData.depth, ih]
theorem il_shaped (is : List Int) : SeqAt.shaped (.list (is.map PyData.int)) = true := by
  simp [SeqAt.shaped, PyData.canLay0, PyData.depth, il_canLay, il_depth]
theorem il_eqv (is js : List Int) : PyData.eqvAll (is.map PyData.int) (js.map PyData.int) = decide (is = js) := by
  induction is generalizing js with
  | nil => cases js <;> simp [PyData.eqvAll]
  | cons i is ih =>
    cases js with
    | nil => simp [PyData.eqvAll]
    | cons j js =>
      rw [List.map_cons, List.map_cons, PyData.eqvAll, PyData.eqv, ih js]
      rw [Bool.eq_iff_iff]
      simp
theorem ints_carried {vs : List Value} {is : List Int} (h : IntsAre vs is) : CarriedAll vs (is.map PyData.int) := by
  induction h with
  | nil => exact .nil
  | cons _ t _ ih => exact .cons (.int _ t) ih
theorem rev_pick (items : Array Value) : slicePick items none none (some (-1)) = items.toList.reverse.toArray := by
  have hb : sliceBounds none none (some (-1)) items.size = ((items.size : Int) - 1, -1, -1) := by first | rfl | simp [sliceBounds]
  unfold slicePick
  rw [hb]
  show (List.filterMap _ (sliceRange ((items.size : Int) - 1) (-1) (-1))).toArray = _
  have hr : sliceRange ((items.size : Int) - 1) (-1) (-1) = (List.range items.size).map fun k => items.size - 1 - k := by
    unfold sliceRange
    rw [if_neg (by decide)]
    have hc : (if (items.size : Int) - 1 > -1 then ((items.size : Int) - 1 - -1 - -1 - 1) / (- -1) else 0) = (items.size : Int) := by
      split
      · rw [show (- -1 : Int) = 1 from rfl, Int.ediv_one]; exact o0
      · exact o1 (by assumption)
    simp only [hc, Int.toNat_natCast]
    exact List.map_congr_left fun k hk => by have := List.mem_range.mp hk; exact o2
  rw [hr, List.filterMap_map]
  congr 1
  apply List.ext_getElem?
  intro i
  have key : (List.range items.size).filterMap ((fun x => items[x]?) ∘ fun k => items.size - 1 - k) = (List.range items.size).map fun k => items.toList.reverse.getD k default := by
    have : ∀ l : List Nat, (∀ k ∈ l, k < items.size) → l.filterMap ((fun x => items[x]?) ∘ fun k => items.size - 1 - k) = l.map fun k => items.toList.reverse.getD k default := by
      intro l
      induction l with
      | nil => intro _; rfl
      | cons k l ih =>
        intro h
        have hk := h k (.head _)
        have hs : items[items.size - 1 - k]? = some (items.toList.reverse.getD k default) := by
          have h1 : items.toList.reverse[k]? = items.toList[items.toList.length - 1 - k]? := List.getElem?_reverse (by simpa using hk)
          rw [List.getD, h1]
          have h2 : items.toList[items.toList.length - 1 - k]? = items[items.size - 1 - k]? := by simp
          rw [h2]
          have h3 : items.size - 1 - k < items.size := by exact o3 hk
          rw [Array.getElem?_eq_getElem h3]; rfl
        rw [List.filterMap_cons, List.map_cons, ih fun j hj => h j (.tail _ hj)]
        simp only [Function.comp, hs]
    exact this _ fun k hk => List.mem_range.mp hk
  rw [key]
  rw [List.getElem?_map]
  rcases Nat.lt_or_ge i items.size with z | z
  · rw [List.getElem?_range z]
    have : items.toList.reverse[i]? = some (items.toList.reverse[i]'(by simpa using z)) := List.getElem?_eq_getElem _
    simp only [Option.map_some, List.getD, this, Option.getD_some]
  · rw [List.getElem?_eq_none (by simpa using z), List.getElem?_eq_none (by simpa using z)]; rfl
theorem mask_all (x : Int) (k : Nat) : Builtin.bitAnd x (2 ^ k - 1) = x % 2 ^ k := by
  have hp : (0 : Int) < 2 ^ k := Int.pow_pos (by decide)
  have hpn : ((2 : Int) ^ k) = ((2 ^ k : Nat) : Int) := by push_cast; rfl
  have hpk : 0 < 2 ^ k := Nat.pow_pos (by decide)
  have ht : ((2 : Int) ^ k - 1).toNat = 2 ^ k - 1 := by rw [hpn]; exact o4
  unfold Builtin.bitAnd
  have hy : decide ((0 : Int) ≤ 2 ^ k - 1) = true := decide_eq_true (by exact o5 hp)
  rw [hy]
  by_cases hx : 0 ≤ x
  · rw [show decide (0 ≤ x) = true from decide_eq_true hx]
    show ((x.toNat &&& ((2 : Int) ^ k - 1).toNat : Nat) : Int) = _
    rw [ht, Nat.and_two_pow_sub_one_eq_mod, hpn, Int.natCast_emod, Int.toNat_of_nonneg hx]
  · rw [show decide (0 ≤ x) = false from decide_eq_false hx]
    show ((2 : Int) ^ k - 1) - ((((2 : Int) ^ k - 1).toNat &&& (Builtin.bitNot x).toNat : Nat) : Int) = _
    rw [ht, Nat.and_comm, Nat.and_two_pow_sub_one_eq_mod, Int.natCast_emod]
    have hb : ((Builtin.bitNot x).toNat : Int) = -x - 1 := by unfold Builtin.bitNot; exact o6 hx
    rw [hb, ← hpn]
    have h1 := Int.emod_add_mul_ediv (-x - 1) (2 ^ k)
    have h2 := Int.emod_nonneg (-x - 1) (show (2 : Int) ^ k ≠ 0 by exact o7 hp)
    have h3 := Int.emod_lt_of_pos (-x - 1) hp
    generalize (-x - 1) % 2 ^ k = r at *
    generalize (-x - 1) / 2 ^ k = q at *
    have e : x = (2 ^ k - 1 - r) + 2 ^ k * (-q - 1) := by grind
    rw [e, Int.add_mul_emod_self_left, Int.emod_eq_of_lt (by exact o8 h3) (by exact o9 h2)]
theorem cells_some {x : Str} : ∀ (names : List (Str × NameKind)) (n : Nat) (acc : List (Str × Addr)), (x, NameKind.cell) ∈ names ∨ (∃ a, acc.lookup x = some a) → ∃ a, (cellsFrom n names acc).lookup x = some a := by
  intro names
  induction names with
  | nil => intro n acc h; exact h.elim (fun h => by cases h) id
  | cons y r ih =>
    intro n acc h
    obtain ⟨z, k⟩ := y
    unfold cellsFrom
    by_cases hk : k = .cell
    · subst hk
      rw [if_pos (by rfl)]
      refine ih _ _ ?_
      by_cases hx : x = z
      · subst hx; exact .inr ⟨n, by simp⟩
      · rcases h with h | ⟨a, h⟩
        · rcases List.mem_cons.mp h with h | h
          · cases h; exact absurd rfl hx
          · exact .inl h
        · exact .inr ⟨a, by rw [List.lookup_cons, beq_false_of_ne hx]; exact h⟩
    · rw [if_neg (by simpa using hk)]
      refine ih _ _ ?_
      rcases h with h | h
      · rcases List.mem_cons.mp h with h | h
        · cases h; exact absurd rfl hk
        · exact .inl h
      · exact .inr h
theorem cells_isSome {x : Str} {names : List (Str × NameKind)} (n : Nat) (h : names.lookup x = some .cell) : ((cellsFrom n names []).lookup x).isSome = true :=
  Option.isSome_iff_exists.mpr (cells_some _ _ _ (.inl (PySem.mem_of_lookup h)))
end Mine
end
section
open PySem PySem.Calls PySem.W PyProof.Rows
set_option maxRecDepth 100000
namespace Mine
inductive V where
  | int (i : Int) | bool (b : Bool) | none | ref (a : Nat) | fn (k : Nat)
inductive Ob where
  | lst (vs : List V) | tup (vs : List V) | fro (vs : List V)
noncomputable def Ob.isFro : Ob → Bool
  | .fro _ => true
  | _ => false
abbrev AH := Nat → Option Ob
abbrev Loc := List (Option V)
noncomputable def AH.set (H : AH) (a : Nat) (o : Ob) : AH := fun b => if b = a then some o else H b
theorem AH.set_self {H : AH} {a : Nat} {o : Ob} : H.set a o a = some o := if_pos rfl
theorem AH.set_ne {H : AH} {a b : Nat} {o : Ob} (h : b ≠ a) : H.set a o b = H b := if_neg h
inductive Op where
  | add | sub | mul | fdiv | mod | shl | shr | band | bor | pow
inductive Cp where
  | lt | le | gt | ge | eq | ne | isin
set_option genSizeOf false
set_option genInjectivity false
mutual
inductive E where
  | var (i : Nat) | fn (k : Nat) | int (i : Int) | boo (b : Bool)
  | bin (op : Op) (a b : E) | neg (a : E)
  | cmp (op : Cp) (a b : E)
  | ite (c : C) (a b : E)
  | idx (a i : E)
  | slT (a hi : E) | slF (a lo : E) | slB (a lo hi : E) | slA (a : E) | rev (a : E)
  | lst (es : Es) | tup (es : Es)
  | call (f : E) (es : Es)
  | len (a : E) | abs (a : E) | toi (a : E) | sum (a : E) | min (a b : E) | max (a b : E) | bitlen (a : E)
  | cmpL (src elt : E) | cmpE (src elt : E) | cmpR (r : R) (elt : E)
inductive R where
  | r1 (hi : E) | r2 (lo hi : E) | r3 (lo hi st : E)
inductive C where
  | cmp (op : Cp) (a b : E) | cmp2 (op₁ op₂ : Cp) (a b c : E) | and (a b : C) | or (a b : C) | not (a : C)
inductive Es where
  | nil | cons (e : E) (r : Es)
end
mutual
inductive S where
  | asg (i : Nat) (e : E)
  | asgT (is : List Nat) (e : E)
  | asgTT (is : List Nat) (es : Es)
  | setIdx (a i v : E)
  | aug (i : Nat) (op : Op) (e : E)
  | app (a v : E) | rever (a : E)
  | ifs (c : C) (t e : Ss)
  | whl (c : C) (b : Ss)
  | forR (i : Nat) (r : R) (b : Ss)
  | forL (i : Nat) (e : E) (b : Ss)
  | forE (i j : Nat) (e : E) (b : Ss)
  | ret (e : E)
  | exp (e : E)
  | bad
inductive Ss where
  | nil | cons (s : S) (r : Ss)
end
set_option genInjectivity true
inductive Fl where
  | next | ret (v : V)
noncomputable def opOk : Op → Int → Int → Prop
  | .mul, x, y => x.natAbs < 2 ^ 64 ∧ y.natAbs < 2 ^ 64
  | .fdiv, _, y => 0 < y ∧ y < 2 ^ 64
  | .mod, _, y => 0 < y
  | .shl, x, n => 0 ≤ n ∧ n ≤ 1000 ∧ x.natAbs < 2 ^ 64
  | .shr, _, n => 0 ≤ n
  | .pow, x, n => 0 ≤ n ∧ n ≤ 1000 ∧ x.natAbs < 2 ^ 64
  | _, _, _ => True
noncomputable def opV : Op → Int → Int → Int
  | .add, x, y => x + y
  | .sub, x, y => x - y
  | .mul, x, y => x * y
  | .fdiv, x, y => x / y
  | .mod, x, y => x % y
  | .shl, x, n => x * 2 ^ n.toNat
  | .shr, x, n => x / 2 ^ n.toNat
  | .band, x, y => Builtin.bitAnd x y
  | .bor, x, y => Builtin.bitOr x y
  | .pow, x, n => x ^ n.toNat
noncomputable def IL (H : AH) (a : Nat) (is : List Int) : Prop := H a = some (.lst (is.map V.int))
inductive ILs (H : AH) : List Nat → List (List Int) → Prop where
  | nil : ILs H [] []
  | cons {a as i is} : IL H a i → ILs H as is → ILs H (a :: as) (i :: is)
noncomputable def LL (H : AH) (a : Nat) (iss : List (List Int)) : Prop := ∃ rs, H a = some (.lst (rs.map V.ref)) ∧ ILs H rs iss
abbrev PQ := V → AH → Prop
noncomputable def varS : Loc → Nat → (V → Prop) → Prop
  | [], _, _ => False
  | o :: _, 0, P => match o with | some v => P v | none => False
  | _ :: r, k + 1, P => varS r k P
noncomputable def asI (x : V) (P : Int → Prop) : Prop := match x with | .int i => P i | _ => False
noncomputable def asR (x : V) (P : Nat → Prop) : Prop := match x with | .ref a => P a | _ => False
noncomputable def asF (x : V) (P : Nat → Prop) : Prop := match x with | .fn k => P k | _ => False
noncomputable def asL (o : Option Ob) (P : List V → Prop) : Prop := match o with | some (.lst xs) => P xs | _ => False
noncomputable def asT (o : Option Ob) (P : List V → Prop) : Prop := match o with | some (.tup xs) => P xs | _ => False
theorem varS_iff {P : V → Prop} : ∀ {l : Loc} {i : Nat}, varS l i P ↔ ∃ v, l[i]? = some (some v) ∧ P v
  | [], i => by simp [varS]
  | o :: r, 0 => by cases o <;> simp [varS]
  | o :: r, i + 1 => by rw [varS, varS_iff]; simp
theorem asI_iff {x : V} {P : Int → Prop} : asI x P ↔ ∃ i, x = .int i ∧ P i := by cases x <;> simp [asI]
theorem asR_iff {x : V} {P : Nat → Prop} : asR x P ↔ ∃ i, x = .ref i ∧ P i := by cases x <;> simp [asR]
theorem asF_iff {x : V} {P : Nat → Prop} : asF x P ↔ ∃ i, x = .fn i ∧ P i := by cases x <;> simp [asF]
theorem asL_iff {o : Option Ob} {P : List V → Prop} : asL o P ↔ ∃ xs, o = some (.lst xs) ∧ P xs := by
  cases o with
  | none => simp [asL]
  | some ob => cases ob <;> simp [asL]
theorem asT_iff {o : Option Ob} {P : List V → Prop} : asT o P ↔ ∃ xs, o = some (.tup xs) ∧ P xs := by
  cases o with
  | none => simp [asT]
  | some ob => cases ob <;> simp [asT]
noncomputable def lim : Nat := 2 ^ 20
noncomputable def binS (op : Op) (x y : V) (H : AH) (Q : PQ) : Prop :=
  match x, y with
  | .int i, .int j => opOk op i j ∧ Q (.int (opV op i j)) H
  | .ref a, .ref b => op = .add ∧ ∃ xs ys, H a = some (.lst xs) ∧ H b = some (.lst ys) ∧ xs.length + ys.length ≤ lim ∧ ∀ c, H c = none → Q (.ref c) (H.set c (.lst (xs ++ ys)))
  | .ref a, .int n => op = .mul ∧ ∃ x, H a = some (.lst [x]) ∧ -(lim : Int) ≤ n ∧ n ≤ lim ∧ ∀ c, H c = none → Q (.ref c) (H.set c (.lst (List.replicate n.toNat x)))
  | _, _ => False
noncomputable def cmpJ : Cp → Int → Int → (Bool → Prop) → Prop
  | .lt, x, y, Q => Q (decide (x < y))
  | .le, x, y, Q => Q (decide (x ≤ y))
  | .gt, x, y, Q => Q (decide (y < x))
  | .ge, x, y, Q => Q (decide (y ≤ x))
  | .eq, x, y, Q => Q (decide (x = y))
  | .ne, x, y, Q => Q (!decide (x = y))
  | .isin, _, _, _ => False
noncomputable def cmpO : Cp → Nat → Nat → AH → (Bool → Prop) → Prop
  | .eq, a, b, H, Q => (∃ is js, IL H a is ∧ IL H b js ∧ Q (decide (is = js))) ∨ ∃ iss jss, LL H a iss ∧ LL H b jss ∧ Q (decide (iss = jss))
  | .ne, a, b, H, Q => (∃ is js, IL H a is ∧ IL H b js ∧ Q (!decide (is = js))) ∨ ∃ iss jss, LL H a iss ∧ LL H b jss ∧ Q (!decide (iss = jss))
  | _, _, _, _, _ => False
noncomputable def cmpS (op : Cp) (x y : V) (H : AH) (Q : Bool → Prop) : Prop :=
  match x, y with
  | .int i, .int j => cmpJ op i j Q
  | .ref a, .ref b => cmpO op a b H Q
  | .int i, .ref b => op = .isin ∧ ∃ js, IL H b js ∧ Q (decide (i ∈ js))
  | _, _ => False
noncomputable def cutS (a : V) (lo hi : Option Int) (H : AH) (Q : PQ) : Prop :=
  match a with
  | .ref a => ∃ xs, (H a = some (.lst xs) ∨ H a = some (.fro xs)) ∧ xs.length ≤ lim ∧
      ∀ c, H c = none → Q (.ref c) (H.set c (.lst ((xs.drop (lo.elim 0 (clipAt xs.length))).take (hi.elim xs.length (clipAt xs.length) - lo.elim 0 (clipAt xs.length)))))
  | _ => False
abbrev Phi := Nat → List V → AH → PQ → Prop
noncomputable def compS (elt : V → AH → PQ → Prop) (keep : AH → Prop) : List V → List V → AH → (List V → AH → Prop) → Prop
  | [], acc, H, Q => Q acc H
  | v :: r, acc, H, Q => elt v H fun y H' => keep H' ∧ compS elt keep r (acc ++ [y]) H' Q
noncomputable def rangeLen (lo hi st : Int) : Nat := (Builtin.Range.rangeSize lo hi st).toNat
noncomputable def rangeOk (lo hi st : Int) : Prop := st ≠ 0 ∧ st.natAbs < 2 ^ 40 ∧ Builtin.Range.small lo hi st = true ∧ rangeLen lo hi st ≤ lim
noncomputable def rangeVs (lo hi st : Int) : List V := (List.range (rangeLen lo hi st)).map fun i : Nat => .int (lo + (i : Int) * st)
mutual
noncomputable def evalS (Φ : Phi) : E → Loc → AH → PQ → Prop
  | .var i, l, H, Q => varS l i fun v => Q v H
  | .fn k, _, H, Q => Q (.fn k) H
  | .int i, _, H, Q => Q (.int i) H
  | .boo b, _, H, Q => Q (.bool b) H
  | .bin op a b, l, H, Q => evalS Φ a l H fun x H₁ => evalS Φ b l H₁ fun y H₂ => binS op x y H₂ Q
  | .neg a, l, H, Q => evalS Φ a l H fun x H₁ => asI x fun i => Q (.int (-i)) H₁
  | .cmp op a b, l, H, Q => evalS Φ a l H fun x H₁ => evalS Φ b l H₁ fun y H₂ => cmpS op x y H₂ fun r => Q (.bool r) H₂
  | .ite c a b, l, H, Q => condS Φ c l H fun r H₁ => (r = true → evalS Φ a l H₁ Q) ∧ (r = false → evalS Φ b l H₁ Q)
  | .idx a i, l, H, Q => evalS Φ a l H fun x H₁ => evalS Φ i l H₁ fun y H₂ =>
      ∃ r k xs v, x = .ref r ∧ y = .int k ∧ H₂ r = some (.lst xs) ∧ xs.length ≤ lim ∧ ((0 ≤ k ∧ xs[k.toNat]? = some v) ∨ (k = -1 ∧ xs.getLast? = some v)) ∧ Q v H₂
  | .slT a hi, l, H, Q => evalS Φ a l H fun x H₁ => evalS Φ hi l H₁ fun y H₂ => asI y fun k => cutS x none (some k) H₂ Q
  | .slF a lo, l, H, Q => evalS Φ a l H fun x H₁ => evalS Φ lo l H₁ fun y H₂ => asI y fun k => cutS x (some k) none H₂ Q
  | .slB a lo hi, l, H, Q => evalS Φ a l H fun x H₁ => evalS Φ lo l H₁ fun y H₂ => evalS Φ hi l H₂ fun z H₃ => asI y fun k => asI z fun m => cutS x (some k) (some m) H₃ Q
  | .slA a, l, H, Q => evalS Φ a l H fun x H₁ => cutS x none none H₁ Q
  | .rev a, l, H, Q => evalS Φ a l H fun x H₁ => asR x fun r => asL (H₁ r) fun xs => xs.length ≤ lim ∧ ∀ c, H₁ c = none → Q (.ref c) (H₁.set c (.lst xs.reverse))
  | .lst es, l, H, Q => evalsS Φ es l H fun vs H₁ => vs.length ≤ lim ∧ ∀ c, H₁ c = none → Q (.ref c) (H₁.set c (.lst vs))
  | .tup es, l, H, Q => evalsS Φ es l H fun vs H₁ => vs.length ≤ lim ∧ ∀ c, H₁ c = none → Q (.ref c) (H₁.set c (.tup vs))
  | .call f es, l, H, Q => evalS Φ f l H fun x H₁ => asF x fun k => evalsS Φ es l H₁ fun vs H₂ => Φ k vs H₂ Q
  | .len a, l, H, Q => evalS Φ a l H fun x H₁ => asR x fun r => asL (H₁ r) fun xs => xs.length ≤ lim ∧ Q (.int xs.length) H₁
  | .abs a, l, H, Q => evalS Φ a l H fun x H₁ => asI x fun i => Q (.int (if i < 0 then -i else i)) H₁
  | .toi a, l, H, Q => evalS Φ a l H fun x H₁ => asI x fun i => Q (.int i) H₁
  | .sum a, l, H, Q => evalS Φ a l H fun x H₁ => ∃ r is, x = .ref r ∧ IL H₁ r is ∧ Q (.int is.sum) H₁
  | .min a b, l, H, Q => evalS Φ a l H fun x H₁ => evalS Φ b l H₁ fun y H₂ => asI x fun i => asI y fun j => Q (.int (if j < i then j else i)) H₂
  | .max a b, l, H, Q => evalS Φ a l H fun x H₁ => evalS Φ b l H₁ fun y H₂ => asI x fun i => asI y fun j => Q (.int (if j > i then j else i)) H₂
  | .bitlen a, l, H, Q => evalS Φ a l H fun x H₁ => asI x fun i => Q (.int (Builtin.Int.intBits i)) H₁
  | .cmpL src elt, l, H, Q => evalS Φ src l H fun x H₁ => ∃ r xs, x = .ref r ∧ H₁ r = some (.lst xs) ∧ xs.length ≤ lim ∧
      compS (fun v H' Q' => evalS Φ elt (l ++ [some v]) H' Q') (fun H' => H' r = some (.lst xs)) xs [] H₁ fun ys H₂ => ∀ c, H₂ c = none → Q (.ref c) (H₂.set c (.lst ys))
  | .cmpE src elt, l, H, Q => evalS Φ src l H fun x H₁ => ∃ r xs, x = .ref r ∧ H₁ r = some (.lst xs) ∧ xs.length ≤ lim ∧
      compS (fun p H' Q' => ∃ i v, p = .int i ∧ xs[i.toNat]? = some v ∧ evalS Φ elt (l ++ [some (.int i), some v]) H' Q') (fun H' => H' r = some (.lst xs)) ((List.range xs.length).map fun i : Nat => .int (i : Int)) [] H₁ fun ys H₂ => ∀ c, H₂ c = none → Q (.ref c) (H₂.set c (.lst ys))
  | .cmpR r elt, l, H, Q => rangeS Φ r l H fun lo hi st H₁ => rangeOk lo hi st ∧
      compS (fun v H' Q' => evalS Φ elt (l ++ [some v]) H' Q') (fun _ => True) (rangeVs lo hi st) [] H₁ fun ys H₂ => ∀ c, H₂ c = none → Q (.ref c) (H₂.set c (.lst ys))
noncomputable def rangeS (Φ : Phi) : R → Loc → AH → (Int → Int → Int → AH → Prop) → Prop
  | .r1 hi, l, H, Q => evalS Φ hi l H fun x H₁ => asI x fun i => Q 0 i 1 H₁
  | .r2 lo hi, l, H, Q => evalS Φ lo l H fun x H₁ => evalS Φ hi l H₁ fun y H₂ => asI x fun i => asI y fun j => Q i j 1 H₂
  | .r3 lo hi st, l, H, Q => evalS Φ lo l H fun x H₁ => evalS Φ hi l H₁ fun y H₂ => evalS Φ st l H₂ fun z H₃ => asI x fun i => asI y fun j => asI z fun k => Q i j k H₃
noncomputable def condS (Φ : Phi) : C → Loc → AH → (Bool → AH → Prop) → Prop
  | .cmp op a b, l, H, Q => evalS Φ a l H fun x H₁ => evalS Φ b l H₁ fun y H₂ => cmpS op x y H₂ fun r => Q r H₂
  | .cmp2 o₁ o₂ a b c, l, H, Q => evalS Φ a l H fun x H₁ => evalS Φ b l H₁ fun y H₂ => cmpS o₁ x y H₂ fun r => (r = false → Q false H₂) ∧ (r = true → evalS Φ c l H₂ fun z H₃ => cmpS o₂ y z H₃ fun r => Q r H₃)
  | .and a b, l, H, Q => condS Φ a l H fun r H₁ => (r = false → Q false H₁) ∧ (r = true → condS Φ b l H₁ Q)
  | .or a b, l, H, Q => condS Φ a l H fun r H₁ => (r = true → Q true H₁) ∧ (r = false → condS Φ b l H₁ Q)
  | .not a, l, H, Q => condS Φ a l H fun r H₁ => Q (!r) H₁
noncomputable def evalsS (Φ : Phi) : Es → Loc → AH → (List V → AH → Prop) → Prop
  | .nil, _, H, Q => Q [] H
  | .cons e r, l, H, Q => evalS Φ e l H fun v H₁ => evalsS Φ r l H₁ fun vs H₂ => Q (v :: vs) H₂
end
noncomputable def setMany : List Nat → List V → Loc → Loc
  | i :: is, v :: vs, l => setMany is vs (l.set i (some v))
  | _, _, l => l
abbrev KQ := Fl → Loc → AH → Prop
mutual
noncomputable def execS (Φ : Phi) : S → Loc → AH → KQ → Prop
  | .asg i e, l, H, K => evalS Φ e l H fun v H₁ => K .next (l.set i (some v)) H₁
  | .asgT is e, l, H, K => evalS Φ e l H fun x H₁ => asR x fun r => asT (H₁ r) fun vs => vs.length = is.length ∧ K .next (setMany is vs l) H₁
  | .asgTT is es, l, H, K => evalsS Φ es l H fun vs H₁ => vs.length = is.length ∧ K .next (setMany is vs l) H₁
  | .setIdx a i v, l, H, K => evalS Φ v l H fun z H₁ => evalS Φ a l H₁ fun x H₂ => evalS Φ i l H₂ fun y H₃ =>
      asR x fun r => asI y fun k => asL (H₃ r) fun xs => xs.length ≤ lim ∧ 0 ≤ k ∧ k < xs.length ∧ K .next l (H₃.set r (.lst (xs.set k.toNat z)))
  | .aug i op e, l, H, K => varS l i fun u => asI u fun x => evalS Φ e l H fun y H₁ => asI y fun j => opOk op x j ∧ K .next (l.set i (some (.int (opV op x j)))) H₁
  | .app a v, l, H, K => evalS Φ a l H fun x H₁ => asR x fun r => (asL (H₁ r) fun _ => True) ∧ evalS Φ v l H₁ fun y H₂ => asL (H₂ r) fun xs => xs.length ≤ lim ∧ K .next l (H₂.set r (.lst (xs ++ [y])))
  | .rever a, l, H, K => evalS Φ a l H fun x H₁ => asR x fun r => asL (H₁ r) fun xs => xs.length ≤ lim ∧ K .next l (H₁.set r (.lst xs.reverse))
  | .ifs c t e, l, H, K => condS Φ c l H fun r H₁ => (r = true → execsS Φ t l H₁ K) ∧ (r = false → execsS Φ e l H₁ K)
  | .whl c b, l, H, K => ∃ I : Nat → Loc → AH → Prop, (∃ n, I n l H) ∧ ∀ n l H, I n l H → condS Φ c l H fun r H₁ =>
      (r = true → execsS Φ b l H₁ fun f l' H' => match f with | .next => ∃ m, m < n ∧ I m l' H' | .ret v => K (.ret v) l' H') ∧ (r = false → K .next l H₁)
  | .forR i r b, l, H, K => rangeS Φ r l H fun lo hi st H₁ => rangeOk lo hi st ∧ ∃ I : Nat → Loc → AH → Prop, I 0 l H₁ ∧
      (∀ k l H, k < rangeLen lo hi st → I k l H → execsS Φ b (l.set i (some (.int (lo + (k : Int) * st)))) H fun f l' H' => match f with | .next => I (k + 1) l' H' | .ret v => K (.ret v) l' H') ∧
      (∀ l H, I (rangeLen lo hi st) l H → K .next l H)
  | .forL i e b, l, H, K => evalS Φ e l H fun x H₁ => asR x fun r => ∃ xs, xs.length ≤ lim ∧ ∃ I : Nat → Loc → AH → Prop, I 0 l H₁ ∧ (∀ k l H, I k l H → H r = some (.lst xs)) ∧
      (∀ k l H v, xs[k]? = some v → I k l H → execsS Φ b (l.set i (some v)) H fun f l' H' => match f with | .next => I (k + 1) l' H' | .ret v => K (.ret v) l' H') ∧
      (∀ l H, I xs.length l H → K .next l H)
  | .forE i j e b, l, H, K => evalS Φ e l H fun x H₁ => asR x fun r => ∃ xs, xs.length ≤ lim ∧ ∃ I : Nat → Loc → AH → Prop, I 0 l H₁ ∧ (∀ k l H, I k l H → H r = some (.lst xs)) ∧
      (∀ k l H v, xs[k]? = some v → I k l H → execsS Φ b ((l.set i (some (.int (k : Int)))).set j (some v)) H fun f l' H' => match f with | .next => I (k + 1) l' H' | .ret v => K (.ret v) l' H') ∧
      (∀ l H, I xs.length l H → K .next l H)
  | .ret e, l, H, K => evalS Φ e l H fun v H₁ => K (.ret v) l H₁
  | .exp e, l, H, K => evalS Φ e l H fun _ H₁ => K .next l H₁
  | .bad, _, _, _ => False
noncomputable def execsS (Φ : Phi) : Ss → Loc → AH → KQ → Prop
  | .nil, l, H, K => K .next l H
  | .cons s r, l, H, K => execS Φ s l H fun f l' H' => match f with | .next => execsS Φ r l' H' K | .ret v => K (.ret v) l' H'
end
structure FD where
  name : String
  nargs : Nat
  nvars : Nat
  body : Ss
noncomputable def callS (defs : List FD) : Nat → Phi
  | 0, _, _, _, _ => False
  | n + 1, k, vs, H, Q => ∃ d, defs[k]? = some d ∧ vs.length = d.nargs ∧
      execsS (callS defs n) d.body (vs.map some ++ List.replicate (d.nvars - d.nargs) none) H fun f _ H' => match f with | .next => Q .none H' | .ret v => Q v H'
end Mine
end
section
open PySem PySem.Calls PySem.W PyProof.Rows
set_option maxRecDepth 100000
namespace Mine
noncomputable def opM : Op → Operator → Bool
  | .add, .Add => true | .sub, .Sub => true | .mul, .Mult => true | .fdiv, .FloorDiv => true | .mod, .Mod => true
  | .shl, .LShift => true | .shr, .RShift => true | .band, .BitAnd => true | .bor, .BitOr => true | .pow, .Pow => true
  | _, _ => false
noncomputable def cpM : Cp → CmpOp → Bool
  | .lt, .Lt => true | .le, .LtE => true | .gt, .Gt => true | .ge, .GtE => true | .eq, .Eq => true | .ne, .NotEq => true | .isin, .In => true
  | _, _ => false
structure MC where
  names : List (Option Str)
  sc : Scope
  fns : List Str
noncomputable def MC.glob (mc : MC) (x : Str) : Bool := mc.sc.names.lookup x == some .globalImplicit && x != ("__debug__" : Str)
noncomputable def MC.blt (mc : MC) (x : Str) (y : String) : Bool := x == Str.ofString y && mc.glob x
noncomputable def MC.isVar (mc : MC) (i : Nat) (x : Str) : Bool := mc.names[i]? == some (some x) && x != ("__debug__" : Str)
noncomputable def MC.sub (mc : MC) (sc : Scope) (xs : List Str) : MC :=
  ⟨(mc.names.map fun y => y.bind fun y => if sc.names.lookup y == some .free && mc.sc.names.lookup y == some .cell then some y else none) ++ xs.map some, sc, mc.fns⟩
noncomputable def subOk (mc : MC) (sc : Scope) (xs : List Str) : Bool :=
  sc.kind == .function && sc.names.all (fun y => y.2 != .cell) && sc.names.all (fun y => y.2 != .local || sc.names.lookup y.1 == some .local)
    && sc.names.all (fun y => y.2 != .free || (mc.sc.names.lookup y.1 == some .cell))
    && xs.all (fun x => sc.names.lookup x == some .local && x != ("__debug__" : Str))
theorem dif_t {c : Prop} {_ : Decidable c} {f : c → Bool} (h : (if h : c then f h else false) = true) : ∃ h : c, f h = true := by
  by_cases hc : c
  · rw [dif_pos hc] at h; exact ⟨hc, h⟩
  · rw [dif_neg hc] at h; cases h
noncomputable def qL0 {α : Type} (b : Bool) : List α → Bool | [] => b | _ :: _ => false
theorem qL0_i {α : Type} {b : Bool} {R : List α → Prop} : ∀ {xs : List α}, qL0 b xs = true → (b = true → R []) → R xs | [], h, k => k h | _ :: _, h, _ => absurd h Bool.false_ne_true
noncomputable def qLc {α : Type} (f : α → List α → Bool) : List α → Bool | [] => false | x :: xs => f x xs
theorem qLc_i {α : Type} {f : α → List α → Bool} {R : List α → Prop} : ∀ {xs : List α}, qLc f xs = true → (∀ y ys, f y ys = true → R (y :: ys)) → R xs | [], h, _ => absurd h Bool.false_ne_true | y :: ys, h, k => k y ys h
noncomputable def qN {α : Type} (b : Bool) : Option α → Bool | none => b | some _ => false
theorem qN_i {α : Type} {b : Bool} {R : Option α → Prop} : ∀ {o : Option α}, qN b o = true → (b = true → R none) → R o | none, h, k => k h | some _, h, _ => absurd h Bool.false_ne_true
noncomputable def qS {α : Type} (f : α → Bool) : Option α → Bool | none => false | some x => f x
theorem qS_i {α : Type} {f : α → Bool} {R : Option α → Prop} : ∀ {o : Option α}, qS f o = true → (∀ y, f y = true → R (some y)) → R o | none, h, _ => absurd h Bool.false_ne_true | some y, h, k => k y h
noncomputable def qI (k : Int) (b : Bool) (v : Int) : Bool := v == k && b
theorem qI_i {k : Int} {b : Bool} {R : Int → Prop} {v : Int} (h : qI k b v = true) (c : b = true → R k) : R v := by
  unfold qI at h; rw [Bool.and_eq_true] at h; rw [eq_of_beq h.1]; exact c h.2
noncomputable def qG (f : Expr → Expr → List Expr → Int → Bool) (c : Comprehension) : Bool := f c.target c.iter c.ifs c.is_async
theorem qG_i {f : Expr → Expr → List Expr → Int → Bool} {R : Comprehension → Prop} {c : Comprehension} (h : qG f c = true) (k : ∀ a b d e, f a b d e = true → R ⟨a, b, d, e⟩) : R c := by cases c; exact k _ _ _ _ h
noncomputable def qUSub (b : Bool) : UnaryOp → Bool | .USub => b | _ => false
theorem qUSub_i {b : Bool} {o : UnaryOp} {R : UnaryOp → Prop} (h : qUSub b o = true) (k : b = true → R .USub) : R o := by cases o <;> first | exact absurd h Bool.false_ne_true | exact k h
noncomputable def qNot (b : Bool) : UnaryOp → Bool | .Not => b | _ => false
theorem qNot_i {b : Bool} {o : UnaryOp} {R : UnaryOp → Prop} (h : qNot b o = true) (k : b = true → R .Not) : R o := by cases o <;> first | exact absurd h Bool.false_ne_true | exact k h
noncomputable def qAnd (b : Bool) : BoolOp → Bool | .And => b | _ => false
theorem qAnd_i {b : Bool} {o : BoolOp} {R : BoolOp → Prop} (h : qAnd b o = true) (k : b = true → R .And) : R o := by cases o <;> first | exact absurd h Bool.false_ne_true | exact k h
noncomputable def qOr (b : Bool) : BoolOp → Bool | .Or => b | _ => false
theorem qOr_i {b : Bool} {o : BoolOp} {R : BoolOp → Prop} (h : qOr b o = true) (k : b = true → R .Or) : R o := by cases o <;> first | exact absurd h Bool.false_ne_true | exact k h
noncomputable def qEBoolOp (f : BoolOp → List Expr → Pos → Bool) (z : Expr) : Bool := if h : z.ctorIdx = 0 then Expr.BoolOp.elim (motive_1 := fun _ => Bool) z h f else false
theorem qEBoolOp_i {f : BoolOp → List Expr → Pos → Bool} {R : Expr → Prop} {z : Expr} (h : qEBoolOp f z = true) (k : ∀ a b c, f a b c = true → R (.BoolOp a b c)) : R z := by
  obtain ⟨hz, h⟩ := dif_t h
  exact Expr.BoolOp.elim (motive_1 := fun z => ∀ hz, Expr.BoolOp.elim (motive_1 := fun _ => Bool) z hz f = true → R z) z hz (fun a b c _ h => k a b c h) hz h
noncomputable def qEBinOp (f : Expr → Operator → Expr → Pos → Bool) (z : Expr) : Bool := if h : z.ctorIdx = 2 then Expr.BinOp.elim (motive_1 := fun _ => Bool) z h f else false
theorem qEBinOp_i {f : Expr → Operator → Expr → Pos → Bool} {R : Expr → Prop} {z : Expr} (h : qEBinOp f z = true) (k : ∀ a b c d, f a b c d = true → R (.BinOp a b c d)) : R z := by
  obtain ⟨hz, h⟩ := dif_t h
  exact Expr.BinOp.elim (motive_1 := fun z => ∀ hz, Expr.BinOp.elim (motive_1 := fun _ => Bool) z hz f = true → R z) z hz (fun a b c d _ h => k a b c d h) hz h
noncomputable def qEUnaryOp (f : UnaryOp → Expr → Pos → Bool) (z : Expr) : Bool := if h : z.ctorIdx = 3 then Expr.UnaryOp.elim (motive_1 := fun _ => Bool) z h f else false
theorem qEUnaryOp_i {f : UnaryOp → Expr → Pos → Bool} {R : Expr → Prop} {z : Expr} (h : qEUnaryOp f z = true) (k : ∀ a b c, f a b c = true → R (.UnaryOp a b c)) : R z := by
  obtain ⟨hz, h⟩ := dif_t h
  exact Expr.UnaryOp.elim (motive_1 := fun z => ∀ hz, Expr.UnaryOp.elim (motive_1 := fun _ => Bool) z hz f = true → R z) z hz (fun a b c _ h => k a b c h) hz h
noncomputable def qEIfExp (f : Expr → Expr → Expr → Pos → Bool) (z : Expr) : Bool := if h : z.ctorIdx = 5 then Expr.IfExp.elim (motive_1 := fun _ => Bool) z h f else false
theorem qEIfExp_i {f : Expr → Expr → Expr → Pos → Bool} {R : Expr → Prop} {z : Expr} (h : qEIfExp f z = true) (k : ∀ a b c d, f a b c d = true → R (.IfExp a b c d)) : R z := by
  obtain ⟨hz, h⟩ := dif_t h
  exact Expr.IfExp.elim (motive_1 := fun z => ∀ hz, Expr.IfExp.elim (motive_1 := fun _ => Bool) z hz f = true → R z) z hz (fun a b c d _ h => k a b c d h) hz h
noncomputable def qEListComp (f : Expr → List Comprehension → Scope → Pos → Bool) (z : Expr) : Bool := if h : z.ctorIdx = 8 then Expr.ListComp.elim (motive_1 := fun _ => Bool) z h f else false
theorem qEListComp_i {f : Expr → List Comprehension → Scope → Pos → Bool} {R : Expr → Prop} {z : Expr} (h : qEListComp f z = true) (k : ∀ a b c d, f a b c d = true → R (.ListComp a b c d)) : R z := by
  obtain ⟨hz, h⟩ := dif_t h
  exact Expr.ListComp.elim (motive_1 := fun z => ∀ hz, Expr.ListComp.elim (motive_1 := fun _ => Bool) z hz f = true → R z) z hz (fun a b c d _ h => k a b c d h) hz h
noncomputable def qECompare (f : Expr → List CmpOp → List Expr → Pos → Bool) (z : Expr) : Bool := if h : z.ctorIdx = 15 then Expr.Compare.elim (motive_1 := fun _ => Bool) z h f else false
theorem qECompare_i {f : Expr → List CmpOp → List Expr → Pos → Bool} {R : Expr → Prop} {z : Expr} (h : qECompare f z = true) (k : ∀ a b c d, f a b c d = true → R (.Compare a b c d)) : R z := by
  obtain ⟨hz, h⟩ := dif_t h
  exact Expr.Compare.elim (motive_1 := fun z => ∀ hz, Expr.Compare.elim (motive_1 := fun _ => Bool) z hz f = true → R z) z hz (fun a b c d _ h => k a b c d h) hz h
noncomputable def qECall (f : Expr → List Expr → List Keyword → Pos → Bool) (z : Expr) : Bool := if h : z.ctorIdx = 16 then Expr.Call.elim (motive_1 := fun _ => Bool) z h f else false
theorem qECall_i {f : Expr → List Expr → List Keyword → Pos → Bool} {R : Expr → Prop} {z : Expr} (h : qECall f z = true) (k : ∀ a b c d, f a b c d = true → R (.Call a b c d)) : R z := by
  obtain ⟨hz, h⟩ := dif_t h
  exact Expr.Call.elim (motive_1 := fun z => ∀ hz, Expr.Call.elim (motive_1 := fun _ => Bool) z hz f = true → R z) z hz (fun a b c d _ h => k a b c d h) hz h
noncomputable def qEConstant (f : Const → Nat → Pos → Bool) (z : Expr) : Bool := if h : z.ctorIdx = 19 then Expr.Constant.elim (motive_1 := fun _ => Bool) z h f else false
theorem qEConstant_i {f : Const → Nat → Pos → Bool} {R : Expr → Prop} {z : Expr} (h : qEConstant f z = true) (k : ∀ a b c, f a b c = true → R (.Constant a b c)) : R z := by
  obtain ⟨hz, h⟩ := dif_t h
  exact Expr.Constant.elim (motive_1 := fun z => ∀ hz, Expr.Constant.elim (motive_1 := fun _ => Bool) z hz f = true → R z) z hz (fun a b c _ h => k a b c h) hz h
noncomputable def qEAttribute (f : Expr → Str → Pos → Bool) (z : Expr) : Bool := if h : z.ctorIdx = 20 then Expr.Attribute.elim (motive_1 := fun _ => Bool) z h f else false
theorem qEAttribute_i {f : Expr → Str → Pos → Bool} {R : Expr → Prop} {z : Expr} (h : qEAttribute f z = true) (k : ∀ a b c, f a b c = true → R (.Attribute a b c)) : R z := by
  obtain ⟨hz, h⟩ := dif_t h
  exact Expr.Attribute.elim (motive_1 := fun z => ∀ hz, Expr.Attribute.elim (motive_1 := fun _ => Bool) z hz f = true → R z) z hz (fun a b c _ h => k a b c h) hz h
noncomputable def qESubscript (f : Expr → Expr → Pos → Bool) (z : Expr) : Bool := if h : z.ctorIdx = 21 then Expr.Subscript.elim (motive_1 := fun _ => Bool) z h f else false
theorem qESubscript_i {f : Expr → Expr → Pos → Bool} {R : Expr → Prop} {z : Expr} (h : qESubscript f z = true) (k : ∀ a b c, f a b c = true → R (.Subscript a b c)) : R z := by
  obtain ⟨hz, h⟩ := dif_t h
  exact Expr.Subscript.elim (motive_1 := fun z => ∀ hz, Expr.Subscript.elim (motive_1 := fun _ => Bool) z hz f = true → R z) z hz (fun a b c _ h => k a b c h) hz h
noncomputable def qEName (f : Str → Pos → Bool) (z : Expr) : Bool := if h : z.ctorIdx = 23 then Expr.Name.elim (motive_1 := fun _ => Bool) z h f else false
theorem qEName_i {f : Str → Pos → Bool} {R : Expr → Prop} {z : Expr} (h : qEName f z = true) (k : ∀ a b, f a b = true → R (.Name a b)) : R z := by
  obtain ⟨hz, h⟩ := dif_t h
  exact Expr.Name.elim (motive_1 := fun z => ∀ hz, Expr.Name.elim (motive_1 := fun _ => Bool) z hz f = true → R z) z hz (fun a b _ h => k a b h) hz h
noncomputable def qEList (f : List Expr → Pos → Bool) (z : Expr) : Bool := if h : z.ctorIdx = 24 then Expr.List.elim (motive_1 := fun _ => Bool) z h f else false
theorem qEList_i {f : List Expr → Pos → Bool} {R : Expr → Prop} {z : Expr} (h : qEList f z = true) (k : ∀ a b, f a b = true → R (.List a b)) : R z := by
  obtain ⟨hz, h⟩ := dif_t h
  exact Expr.List.elim (motive_1 := fun z => ∀ hz, Expr.List.elim (motive_1 := fun _ => Bool) z hz f = true → R z) z hz (fun a b _ h => k a b h) hz h
noncomputable def qETuple (f : List Expr → Nat → Pos → Bool) (z : Expr) : Bool := if h : z.ctorIdx = 25 then Expr.Tuple.elim (motive_1 := fun _ => Bool) z h f else false
theorem qETuple_i {f : List Expr → Nat → Pos → Bool} {R : Expr → Prop} {z : Expr} (h : qETuple f z = true) (k : ∀ a b c, f a b c = true → R (.Tuple a b c)) : R z := by
  obtain ⟨hz, h⟩ := dif_t h
  exact Expr.Tuple.elim (motive_1 := fun z => ∀ hz, Expr.Tuple.elim (motive_1 := fun _ => Bool) z hz f = true → R z) z hz (fun a b c _ h => k a b c h) hz h
noncomputable def qESlice (f : Option Expr → Option Expr → Option Expr → Pos → Bool) (z : Expr) : Bool := if h : z.ctorIdx = 26 then Expr.Slice.elim (motive_1 := fun _ => Bool) z h f else false
theorem qESlice_i {f : Option Expr → Option Expr → Option Expr → Pos → Bool} {R : Expr → Prop} {z : Expr} (h : qESlice f z = true) (k : ∀ a b c d, f a b c d = true → R (.Slice a b c d)) : R z := by
  obtain ⟨hz, h⟩ := dif_t h
  exact Expr.Slice.elim (motive_1 := fun z => ∀ hz, Expr.Slice.elim (motive_1 := fun _ => Bool) z hz f = true → R z) z hz (fun a b c d _ h => k a b c d h) hz h
noncomputable def qSReturn (f : Option Expr → Pos → Bool) (z : Stmt) : Bool := if h : z.ctorIdx = 3 then Stmt.Return.elim (motive_2 := fun _ => Bool) z h f else false
theorem qSReturn_i {f : Option Expr → Pos → Bool} {R : Stmt → Prop} {z : Stmt} (h : qSReturn f z = true) (k : ∀ a b, f a b = true → R (.Return a b)) : R z := by
  obtain ⟨hz, h⟩ := dif_t h
  exact Stmt.Return.elim (motive_2 := fun z => ∀ hz, Stmt.Return.elim (motive_2 := fun _ => Bool) z hz f = true → R z) z hz (fun a b _ h => k a b h) hz h
noncomputable def qSAssign (f : List Expr → Expr → Pos → Bool) (z : Stmt) : Bool := if h : z.ctorIdx = 5 then Stmt.Assign.elim (motive_2 := fun _ => Bool) z h f else false
theorem qSAssign_i {f : List Expr → Expr → Pos → Bool} {R : Stmt → Prop} {z : Stmt} (h : qSAssign f z = true) (k : ∀ a b c, f a b c = true → R (.Assign a b c)) : R z := by
  obtain ⟨hz, h⟩ := dif_t h
  exact Stmt.Assign.elim (motive_2 := fun z => ∀ hz, Stmt.Assign.elim (motive_2 := fun _ => Bool) z hz f = true → R z) z hz (fun a b c _ h => k a b c h) hz h
noncomputable def qSAugAssign (f : Expr → Operator → Expr → Pos → Bool) (z : Stmt) : Bool := if h : z.ctorIdx = 7 then Stmt.AugAssign.elim (motive_2 := fun _ => Bool) z h f else false
theorem qSAugAssign_i {f : Expr → Operator → Expr → Pos → Bool} {R : Stmt → Prop} {z : Stmt} (h : qSAugAssign f z = true) (k : ∀ a b c d, f a b c d = true → R (.AugAssign a b c d)) : R z := by
  obtain ⟨hz, h⟩ := dif_t h
  exact Stmt.AugAssign.elim (motive_2 := fun z => ∀ hz, Stmt.AugAssign.elim (motive_2 := fun _ => Bool) z hz f = true → R z) z hz (fun a b c d _ h => k a b c d h) hz h
noncomputable def qSFor (f : Expr → Expr → List Stmt → List Stmt → Pos → Bool) (z : Stmt) : Bool := if h : z.ctorIdx = 9 then Stmt.For.elim (motive_2 := fun _ => Bool) z h f else false
theorem qSFor_i {f : Expr → Expr → List Stmt → List Stmt → Pos → Bool} {R : Stmt → Prop} {z : Stmt} (h : qSFor f z = true) (k : ∀ a b c d e, f a b c d e = true → R (.For a b c d e)) : R z := by
  obtain ⟨hz, h⟩ := dif_t h
  exact Stmt.For.elim (motive_2 := fun z => ∀ hz, Stmt.For.elim (motive_2 := fun _ => Bool) z hz f = true → R z) z hz (fun a b c d e _ h => k a b c d e h) hz h
noncomputable def qSWhile (f : Expr → List Stmt → List Stmt → Pos → Bool) (z : Stmt) : Bool := if h : z.ctorIdx = 11 then Stmt.While.elim (motive_2 := fun _ => Bool) z h f else false
theorem qSWhile_i {f : Expr → List Stmt → List Stmt → Pos → Bool} {R : Stmt → Prop} {z : Stmt} (h : qSWhile f z = true) (k : ∀ a b c d, f a b c d = true → R (.While a b c d)) : R z := by
  obtain ⟨hz, h⟩ := dif_t h
  exact Stmt.While.elim (motive_2 := fun z => ∀ hz, Stmt.While.elim (motive_2 := fun _ => Bool) z hz f = true → R z) z hz (fun a b c d _ h => k a b c d h) hz h
noncomputable def qSIf (f : Expr → List Stmt → List Stmt → Pos → Bool) (z : Stmt) : Bool := if h : z.ctorIdx = 12 then Stmt.If.elim (motive_2 := fun _ => Bool) z h f else false
theorem qSIf_i {f : Expr → List Stmt → List Stmt → Pos → Bool} {R : Stmt → Prop} {z : Stmt} (h : qSIf f z = true) (k : ∀ a b c d, f a b c d = true → R (.If a b c d)) : R z := by
  obtain ⟨hz, h⟩ := dif_t h
  exact Stmt.If.elim (motive_2 := fun z => ∀ hz, Stmt.If.elim (motive_2 := fun _ => Bool) z hz f = true → R z) z hz (fun a b c d _ h => k a b c d h) hz h
noncomputable def qSRaise (f : Option Expr → Option Expr → Pos → Bool) (z : Stmt) : Bool := if h : z.ctorIdx = 16 then Stmt.Raise.elim (motive_2 := fun _ => Bool) z h f else false
theorem qSRaise_i {f : Option Expr → Option Expr → Pos → Bool} {R : Stmt → Prop} {z : Stmt} (h : qSRaise f z = true) (k : ∀ a b c, f a b c = true → R (.Raise a b c)) : R z := by
  obtain ⟨hz, h⟩ := dif_t h
  exact Stmt.Raise.elim (motive_2 := fun z => ∀ hz, Stmt.Raise.elim (motive_2 := fun _ => Bool) z hz f = true → R z) z hz (fun a b c _ h => k a b c h) hz h
noncomputable def qSExpr (f : Expr → Pos → Bool) (z : Stmt) : Bool := if h : z.ctorIdx = 24 then Stmt.Expr.elim (motive_2 := fun _ => Bool) z h f else false
theorem qSExpr_i {f : Expr → Pos → Bool} {R : Stmt → Prop} {z : Stmt} (h : qSExpr f z = true) (k : ∀ a b, f a b = true → R (.Expr a b)) : R z := by
  obtain ⟨hz, h⟩ := dif_t h
  exact Stmt.Expr.elim (motive_2 := fun z => ∀ hz, Stmt.Expr.elim (motive_2 := fun _ => Bool) z hz f = true → R z) z hz (fun a b _ h => k a b h) hz h
noncomputable def qCbool (f : Bool → Bool) (z : Const) : Bool := if h : z.ctorIdx = 1 then Const.bool.elim (motive := fun _ => Bool) z h f else false
theorem qCbool_i {f : Bool → Bool} {R : Const → Prop} {z : Const} (h : qCbool f z = true) (k : ∀ a, f a = true → R (.bool a)) : R z := by
  obtain ⟨hz, h⟩ := dif_t h
  exact Const.bool.elim (motive := fun z => ∀ hz, Const.bool.elim (motive := fun _ => Bool) z hz f = true → R z) z hz (fun a _ h => k a h) hz h
noncomputable def qCint (f : Int → Bool) (z : Const) : Bool := if h : z.ctorIdx = 2 then Const.int.elim (motive := fun _ => Bool) z h f else false
theorem qCint_i {f : Int → Bool} {R : Const → Prop} {z : Const} (h : qCint f z = true) (k : ∀ a, f a = true → R (.int a)) : R z := by
  obtain ⟨hz, h⟩ := dif_t h
  exact Const.int.elim (motive := fun z => ∀ hz, Const.int.elim (motive := fun _ => Bool) z hz f = true → R z) z hz (fun a _ h => k a h) hz h
mutual
noncomputable def mE (mc : MC) : E → Expr → Bool
  | .var i, zz => qEName (fun x u1 => mc.isVar i x) zz
  | .fn k, zz => qEName (fun x u1 => mc.fns[k]? == some x && mc.glob x) zz
  | .int i, zz => qEConstant (fun w1 u1 u2 => qCint (fun j => i == j) w1) zz
  | .boo b, zz => qEConstant (fun w1 u1 u2 => qCbool (fun c => b == c) w1) zz
  | .bin op a b, zz => qEBinOp (fun l o r u1 => opM op o && mE mc a l && mE mc b r) zz
  | .neg a, zz => qEUnaryOp (fun w1 x u1 => qUSub (mE mc a x) w1) zz
  | .cmp op a b, zz => qECompare (fun l w1 w2 u1 => qLc (fun o w3 => qL0 (qLc (fun r w4 => qL0 (cpM op o && mE mc a l && mE mc b r) w4) w2) w3) w1) zz
  | .ite c a b, zz => qEIfExp (fun t x y u1 => mC mc c t && mE mc a x && mE mc b y) zz
  | .idx a i, zz => qESubscript (fun v s u1 => mE mc a v && mE mc i s) zz
  | .slT a hi, zz => qESubscript (fun w1 w2 u2 => qEName (fun x p => qESlice (fun w3 w4 w5 u1 => qN (qS (fun u => qN (mE mc a (.Name x p) && mE mc hi u) w5) w4) w3) w2) w1) zz
  | .slF a lo, zz => qESubscript (fun w1 w2 u2 => qEName (fun x p => qESlice (fun w3 w4 w5 u1 => qS (fun u => qN (qN (mE mc a (.Name x p) && mE mc lo u) w5) w4) w3) w2) w1) zz
  | .slB a lo hi, zz => qESubscript (fun w1 w2 u2 => qEName (fun x p => qESlice (fun w3 w4 w5 u1 => qS (fun t => qS (fun u => qN (mE mc a (.Name x p) && mE mc lo t && mE mc hi u) w5) w4) w3) w2) w1) zz
  | .slA a, zz => qESubscript (fun w1 w2 u2 => qEName (fun x p => qESlice (fun w3 w4 w5 u1 => qN (qN (qN (mE mc a (.Name x p)) w5) w4) w3) w2) w1) zz
  | .rev a, zz => qESubscript (fun w1 w2 u5 => qEName (fun x p => qESlice (fun w3 w4 w5 u4 => qN (qN (qS (fun w6 => qEUnaryOp (fun w7 w8 u3 => qUSub (qEConstant (fun w9 u1 u2 => qCint (fun w10 => qI 1 (mE mc a (.Name x p)) w10) w9) w8) w7) w6) w5) w4) w3) w2) w1) zz
  | .lst es, zz => qEList (fun xs u1 => mEs mc es xs) zz
  | .tup es, zz => qETuple (fun xs u1 u2 => mEs mc es xs) zz
  | .call f es, zz => qECall (fun w1 w2 w3 u1 => qEName (fun x p => qLc (fun y ys => qL0 (mE mc f (.Name x p) && mEs mc es (y :: ys)) w3) w2) w1) zz
  | .len a, zz => qECall (fun w1 w2 w3 u2 => qEName (fun x u1 => qLc (fun e w4 => qL0 (qL0 (mc.blt x "len" && mE mc a e) w3) w4) w2) w1) zz
  | .abs a, zz => qECall (fun w1 w2 w3 u2 => qEName (fun x u1 => qLc (fun e w4 => qL0 (qL0 (mc.blt x "abs" && mE mc a e) w3) w4) w2) w1) zz
  | .toi a, zz => qECall (fun w1 w2 w3 u2 => qEName (fun x u1 => qLc (fun e w4 => qL0 (qL0 (mc.blt x "int" && mE mc a e) w3) w4) w2) w1) zz
  | .sum a, zz => qECall (fun w1 w2 w3 u2 => qEName (fun x u1 => qLc (fun e w4 => qL0 (qL0 (mc.blt x "sum" && mE mc a e) w3) w4) w2) w1) zz
  | .min a b, zz => qECall (fun w1 w2 w3 u2 => qEName (fun x u1 => qLc (fun e w4 => qLc (fun e' w5 => qL0 (qL0 (mc.blt x "min" && mE mc a e && mE mc b e') w3) w5) w4) w2) w1) zz
  | .max a b, zz => qECall (fun w1 w2 w3 u2 => qEName (fun x u1 => qLc (fun e w4 => qLc (fun e' w5 => qL0 (qL0 (mc.blt x "max" && mE mc a e && mE mc b e') w3) w5) w4) w2) w1) zz
  | .bitlen a, zz => qECall (fun w1 w2 w3 pos => qEAttribute (fun o x ap => qL0 (qL0 (x == ("bit_length" : Str) && mE mc a o && ap.endLine == pos.line) w3) w2) w1) zz
  | .cmpL src elt, zz => qEListComp (fun e w1 sc u2 => qLc (fun w2 w3 => qG (fun w4 it w5 w6 => qEName (fun x u1 => qL0 (qI 0 (qL0 (mE mc src it && subOk mc sc [x] && mE (mc.sub sc [x]) elt e) w3) w6) w5) w4) w2) w1) zz
  | .cmpE src elt, zz => qEListComp (fun e w1 sc u7 => qLc (fun w2 w3 => qG (fun w4 w5 w6 w7 => qETuple (fun w8 u3 u4 => qLc (fun w9 w10 => qEName (fun x u1 => qLc (fun w11 w12 => qEName (fun y u2 => qL0 (qECall (fun w13 w14 w15 u6 => qEName (fun f u5 => qLc (fun it w16 => qL0 (qL0 (qL0 (qI 0 (qL0 (mc.blt f "enumerate" && mE mc src it && x != y && subOk mc sc [x, y] && mE (mc.sub sc [x, y]) elt e) w3) w7) w6) w15) w16) w14) w13) w5) w12) w11) w10) w9) w8) w4) w2) w1) zz
  | .cmpR r elt, zz => qEListComp (fun e w1 sc u2 => qLc (fun w2 w3 => qG (fun w4 it w5 w6 => qEName (fun x u1 => qL0 (qI 0 (qL0 (mR mc r it && subOk mc sc [x] && mE (mc.sub sc [x]) elt e) w3) w6) w5) w4) w2) w1) zz
noncomputable def mR (mc : MC) : R → Expr → Bool
  | .r1 hi, zz => qECall (fun w1 w2 w3 u2 => qEName (fun x u1 => qLc (fun e w4 => qL0 (qL0 (mc.blt x "range" && mE mc hi e) w3) w4) w2) w1) zz
  | .r2 lo hi, zz => qECall (fun w1 w2 w3 u2 => qEName (fun x u1 => qLc (fun e w4 => qLc (fun e' w5 => qL0 (qL0 (mc.blt x "range" && mE mc lo e && mE mc hi e') w3) w5) w4) w2) w1) zz
  | .r3 lo hi st, zz => qECall (fun w1 w2 w3 u2 => qEName (fun x u1 => qLc (fun e w4 => qLc (fun e' w5 => qLc (fun e'' w6 => qL0 (qL0 (mc.blt x "range" && mE mc lo e && mE mc hi e' && mE mc st e'') w3) w6) w5) w4) w2) w1) zz
noncomputable def mC (mc : MC) : C → Expr → Bool
  | .cmp op a b, zz => qECompare (fun l w1 w2 u1 => qLc (fun o w3 => qL0 (qLc (fun r w4 => qL0 (cpM op o && mE mc a l && mE mc b r) w4) w2) w3) w1) zz
  | .cmp2 o₁ o₂ a b c, zz => qECompare (fun l w1 w2 u1 => qLc (fun p₁ w3 => qLc (fun p₂ w4 => qL0 (qLc (fun r w5 => qLc (fun t w6 => qL0 (cpM o₁ p₁ && cpM o₂ p₂ && mE mc a l && mE mc b r && mE mc c t) w6) w5) w2) w4) w3) w1) zz
  | .and a b, zz => qEBoolOp (fun w1 w2 u1 => qAnd (qLc (fun x w3 => qLc (fun y w4 => qL0 (mC mc a x && mC mc b y) w4) w3) w2) w1) zz
  | .or a b, zz => qEBoolOp (fun w1 w2 u1 => qOr (qLc (fun x w3 => qLc (fun y w4 => qL0 (mC mc a x && mC mc b y) w4) w3) w2) w1) zz
  | .not a, zz => qEUnaryOp (fun w1 x u1 => qNot (mC mc a x) w1) zz
noncomputable def mEs (mc : MC) : Es → List Expr → Bool
  | .nil, [] => true
  | .cons e r, x :: xs => mE mc e x && mEs mc r xs
  | _, _ => false
end
noncomputable def mTs (mc : MC) : List Nat → List Expr → Bool
  | [], [] => true
  | i :: is, t :: ts => qEName (fun x _ => mc.isVar i x && mTs mc is ts) t
  | _, _ => false
noncomputable def isComp : Expr → Bool
  | .ListComp .. => true | .SetComp .. => true | .DictComp .. => true
  | _ => false
mutual
noncomputable def mS (mc : MC) : S → Stmt → Bool
  | .asg i e, zz => qSAssign (fun w1 v u2 => qLc (fun w2 w3 => qEName (fun x u1 => qL0 (mc.isVar i x && mE mc e v) w3) w2) w1) zz
  | .asgT is e, zz => qSAssign (fun w1 w2 u3 => qLc (fun w3 w4 => qETuple (fun ts u1 u2 => qL0 (qECall (fun f args kw p => mTs mc is ts && mE mc e (.Call f args kw p)) w2) w4) w3) w1) zz
  | .asgTT is es, zz => qSAssign (fun w1 w2 u5 => qLc (fun w3 w4 => qETuple (fun ts u1 u2 => qL0 (qETuple (fun vs u3 u4 => mTs mc is ts && mEs mc es vs && (is.length == 2 || is.length == 3) && is.Nodup && !vs.all (constantsAlone 8)) w2) w4) w3) w1) zz
  | .setIdx a i v, zz => qSAssign (fun w1 e u2 => qLc (fun w2 w3 => qESubscript (fun o j u1 => qL0 (mE mc v e && mE mc a o && mE mc i j && !isComp e) w3) w2) w1) zz
  | .aug i op e, zz => qSAugAssign (fun w1 o v u2 => qEName (fun x u1 => mc.isVar i x && opM op o && mE mc e v) w1) zz
  | .app a v, zz => qSExpr (fun w1 u1 => qECall (fun w2 w3 w4 pos => qEAttribute (fun o x ap => qLc (fun e w5 => qL0 (qL0 (x == ("append" : Str) && mE mc a o && mE mc v e && ap.endLine == pos.line) w4) w5) w3) w2) w1) zz
  | .rever a, zz => qSExpr (fun w1 u1 => qECall (fun w2 w3 w4 pos => qEAttribute (fun o x ap => qL0 (qL0 (x == ("reverse" : Str) && mE mc a o && ap.endLine == pos.line) w4) w3) w2) w1) zz
  | .ifs c t e, zz => qSIf (fun x b o u1 => mC mc c x && mSs mc t b && mSs mc e o) zz
  | .whl c b, zz => qSWhile (fun x y w1 u1 => qL0 (mC mc c x && mSs mc b y) w1) zz
  | .forR i r b, zz => qSFor (fun w1 it y w2 u2 => qEName (fun x u1 => qL0 (mc.isVar i x && mR mc r it && mSs mc b y) w2) w1) zz
  | .forL i e b, zz => qSFor (fun w1 it y w2 u2 => qEName (fun x u1 => qL0 (mc.isVar i x && mE mc e it && mSs mc b y) w2) w1) zz
  | .forE i j e b, zz => qSFor (fun w1 w2 y w3 u7 => qETuple (fun w4 u3 u4 => qLc (fun w5 w6 => qEName (fun x u1 => qLc (fun w7 w8 => qEName (fun x' u2 => qL0 (qECall (fun w9 w10 w11 u6 => qEName (fun f u5 => qLc (fun it w12 => qL0 (qL0 (qL0 (mc.isVar i x && mc.isVar j x' && i != j && mc.blt f "enumerate" && mE mc e it && mSs mc b y) w3) w11) w12) w10) w9) w2) w8) w7) w6) w5) w4) w1) zz
  | .ret e, zz => qSReturn (fun w1 u1 => qS (fun v => mE mc e v) w1) zz
  | .exp e, zz => qSExpr (fun w1 u1 => qECall (fun w2 args w3 cp => qEName (fun x p => qL0 (mE mc e (.Call (.Name x p) args [] cp)) w3) w2) w1) zz
  | .bad, zz => qSRaise (fun u1 u2 u3 => true) zz
noncomputable def mSs (mc : MC) : Ss → List Stmt → Bool
  | .nil, [] => true
  | .cons s r, x :: xs => mS mc s x && mSs mc r xs
  | _, _ => false
end
theorem i_mTs {mc : MC} {i is t ts} {R : Expr → Prop} (h : mTs mc (i :: is) (t :: ts) = true) (kk : ∀ x p, (mc.isVar i x && mTs mc is ts) = true → R (.Name x p)) : R t := qEName_i (show qEName (fun x _ => mc.isVar i x && mTs mc is ts) t = true from h) kk
theorem i_mE_var {mc : MC} {i} {zz} {R : Expr → Prop} (h : mE mc (.var i) zz = true) (kk : ∀ x u1, (mc.isVar i x) = true → R (.Name x u1)) : R zz :=
  qEName_i (show qEName (fun x u1 => mc.isVar i x) zz = true from h) fun x u1 h0 => kk x u1 h0
theorem i_mE_fn {mc : MC} {k} {zz} {R : Expr → Prop} (h : mE mc (.fn k) zz = true) (kk : ∀ x u1, (mc.fns[k]? == some x && mc.glob x) = true → R (.Name x u1)) : R zz :=
  qEName_i (show qEName (fun x u1 => mc.fns[k]? == some x && mc.glob x) zz = true from h) fun x u1 h0 => kk x u1 h0
theorem i_mE_int {mc : MC} {i} {zz} {R : Expr → Prop} (h : mE mc (.int i) zz = true) (kk : ∀ j u1 u2, (i == j) = true → R (.Constant (.int j) u1 u2)) : R zz :=
  qEConstant_i (show qEConstant (fun w1 u1 u2 => qCint (fun j => i == j) w1) zz = true from h) fun w1 u1 u2 h0 => qCint_i (R := fun w1 => R (.Constant w1 u1 u2)) h0 fun j h1 => kk j u1 u2 h1
theorem i_mE_boo {mc : MC} {b} {zz} {R : Expr → Prop} (h : mE mc (.boo b) zz = true) (kk : ∀ c u1 u2, (b == c) = true → R (.Constant (.bool c) u1 u2)) : R zz :=
  qEConstant_i (show qEConstant (fun w1 u1 u2 => qCbool (fun c => b == c) w1) zz = true from h) fun w1 u1 u2 h0 => qCbool_i (R := fun w1 => R (.Constant w1 u1 u2)) h0 fun c h1 => kk c u1 u2 h1
theorem i_mE_bin {mc : MC} {op a b} {zz} {R : Expr → Prop} (h : mE mc (.bin op a b) zz = true) (kk : ∀ l o r u1, (opM op o && mE mc a l && mE mc b r) = true → R (.BinOp l o r u1)) : R zz :=
  qEBinOp_i (show qEBinOp (fun l o r u1 => opM op o && mE mc a l && mE mc b r) zz = true from h) fun l o r u1 h0 => kk l o r u1 h0
theorem i_mE_neg {mc : MC} {a} {zz} {R : Expr → Prop} (h : mE mc (.neg a) zz = true) (kk : ∀ x u1, (mE mc a x) = true → R (.UnaryOp .USub x u1)) : R zz :=
  qEUnaryOp_i (show qEUnaryOp (fun w1 x u1 => qUSub (mE mc a x) w1) zz = true from h) fun w1 x u1 h0 => qUSub_i (R := fun w1 => R (.UnaryOp w1 x u1)) h0 fun h1 => kk x u1 h1
theorem i_mE_cmp {mc : MC} {op a b} {zz} {R : Expr → Prop} (h : mE mc (.cmp op a b) zz = true) (kk : ∀ l o r u1, (cpM op o && mE mc a l && mE mc b r) = true → R (.Compare l [o] [r] u1)) : R zz :=
  qECompare_i (show qECompare (fun l w1 w2 u1 => qLc (fun o w3 => qL0 (qLc (fun r w4 => qL0 (cpM op o && mE mc a l && mE mc b r) w4) w2) w3) w1) zz = true from h) fun l w1 w2 u1 h0 => qLc_i (R := fun w1 => R (.Compare l w1 w2 u1)) h0 fun o w3 h1 => qL0_i (R := fun w3 => R (.Compare l (o :: w3) w2 u1)) h1 fun h2 => qLc_i (R := fun w2 => R (.Compare l (o :: []) w2 u1)) h2 fun r w4 h3 => qL0_i (R := fun w4 => R (.Compare l (o :: []) (r :: w4) u1)) h3 fun h4 => kk l o r u1 h4
theorem i_mE_ite {mc : MC} {c a b} {zz} {R : Expr → Prop} (h : mE mc (.ite c a b) zz = true) (kk : ∀ t x y u1, (mC mc c t && mE mc a x && mE mc b y) = true → R (.IfExp t x y u1)) : R zz :=
  qEIfExp_i (show qEIfExp (fun t x y u1 => mC mc c t && mE mc a x && mE mc b y) zz = true from h) fun t x y u1 h0 => kk t x y u1 h0
theorem i_mE_idx {mc : MC} {a i} {zz} {R : Expr → Prop} (h : mE mc (.idx a i) zz = true) (kk : ∀ v s u1, (mE mc a v && mE mc i s) = true → R (.Subscript v s u1)) : R zz :=
  qESubscript_i (show qESubscript (fun v s u1 => mE mc a v && mE mc i s) zz = true from h) fun v s u1 h0 => kk v s u1 h0
theorem i_mE_slT {mc : MC} {a hi} {zz} {R : Expr → Prop} (h : mE mc (.slT a hi) zz = true) (kk : ∀ x p u u1 u2, (mE mc a (.Name x p) && mE mc hi u) = true → R (.Subscript (.Name x p) (.Slice none (some u) none u1) u2)) : R zz :=
  qESubscript_i (show qESubscript (fun w1 w2 u2 => qEName (fun x p => qESlice (fun w3 w4 w5 u1 => qN (qS (fun u => qN (mE mc a (.Name x p) && mE mc hi u) w5) w4) w3) w2) w1) zz = true from h) fun w1 w2 u2 h0 => qEName_i (R := fun w1 => R (.Subscript w1 w2 u2)) h0 fun x p h1 => qESlice_i (R := fun w2 => R (.Subscript (.Name x p) w2 u2)) h1 fun w3 w4 w5 u1 h2 => qN_i (R := fun w3 => R (.Subscript (.Name x p) (.Slice w3 w4 w5 u1) u2)) h2 fun h3 => qS_i (R := fun w4 => R (.Subscript (.Name x p) (.Slice none w4 w5 u1) u2)) h3 fun u h4 => qN_i (R := fun w5 => R (.Subscript (.Name x p) (.Slice none (some u) w5 u1) u2)) h4 fun h5 => kk x p u u1 u2 h5
theorem i_mE_slF {mc : MC} {a lo} {zz} {R : Expr → Prop} (h : mE mc (.slF a lo) zz = true) (kk : ∀ x p u u1 u2, (mE mc a (.Name x p) && mE mc lo u) = true → R (.Subscript (.Name x p) (.Slice (some u) none none u1) u2)) : R zz :=
  qESubscript_i (show qESubscript (fun w1 w2 u2 => qEName (fun x p => qESlice (fun w3 w4 w5 u1 => qS (fun u => qN (qN (mE mc a (.Name x p) && mE mc lo u) w5) w4) w3) w2) w1) zz = true from h) fun w1 w2 u2 h0 => qEName_i (R := fun w1 => R (.Subscript w1 w2 u2)) h0 fun x p h1 => qESlice_i (R := fun w2 => R (.Subscript (.Name x p) w2 u2)) h1 fun w3 w4 w5 u1 h2 => qS_i (R := fun w3 => R (.Subscript (.Name x p) (.Slice w3 w4 w5 u1) u2)) h2 fun u h3 => qN_i (R := fun w4 => R (.Subscript (.Name x p) (.Slice (some u) w4 w5 u1) u2)) h3 fun h4 => qN_i (R := fun w5 => R (.Subscript (.Name x p) (.Slice (some u) none w5 u1) u2)) h4 fun h5 => kk x p u u1 u2 h5
theorem i_mE_slB {mc : MC} {a lo hi} {zz} {R : Expr → Prop} (h : mE mc (.slB a lo hi) zz = true) (kk : ∀ x p t u u1 u2, (mE mc a (.Name x p) && mE mc lo t && mE mc hi u) = true → R (.Subscript (.Name x p) (.Slice (some t) (some u) none u1) u2)) : R zz :=
  qESubscript_i (show qESubscript (fun w1 w2 u2 => qEName (fun x p => qESlice (fun w3 w4 w5 u1 => qS (fun t => qS (fun u => qN (mE mc a (.Name x p) && mE mc lo t && mE mc hi u) w5) w4) w3) w2) w1) zz = true from h) fun w1 w2 u2 h0 => qEName_i (R := fun w1 => R (.Subscript w1 w2 u2)) h0 fun x p h1 => qESlice_i (R := fun w2 => R (.Subscript (.Name x p) w2 u2)) h1 fun w3 w4 w5 u1 h2 => qS_i (R := fun w3 => R (.Subscript (.Name x p) (.Slice w3 w4 w5 u1) u2)) h2 fun t h3 => qS_i (R := fun w4 => R (.Subscript (.Name x p) (.Slice (some t) w4 w5 u1) u2)) h3 fun u h4 => qN_i (R := fun w5 => R (.Subscript (.Name x p) (.Slice (some t) (some u) w5 u1) u2)) h4 fun h5 => kk x p t u u1 u2 h5
theorem i_mE_slA {mc : MC} {a} {zz} {R : Expr → Prop} (h : mE mc (.slA a) zz = true) (kk : ∀ x p u1 u2, (mE mc a (.Name x p)) = true → R (.Subscript (.Name x p) (.Slice none none none u1) u2)) : R zz :=
  qESubscript_i (show qESubscript (fun w1 w2 u2 => qEName (fun x p => qESlice (fun w3 w4 w5 u1 => qN (qN (qN (mE mc a (.Name x p)) w5) w4) w3) w2) w1) zz = true from h) fun w1 w2 u2 h0 => qEName_i (R := fun w1 => R (.Subscript w1 w2 u2)) h0 fun x p h1 => qESlice_i (R := fun w2 => R (.Subscript (.Name x p) w2 u2)) h1 fun w3 w4 w5 u1 h2 => qN_i (R := fun w3 => R (.Subscript (.Name x p) (.Slice w3 w4 w5 u1) u2)) h2 fun h3 => qN_i (R := fun w4 => R (.Subscript (.Name x p) (.Slice none w4 w5 u1) u2)) h3 fun h4 => qN_i (R := fun w5 => R (.Subscript (.Name x p) (.Slice none none w5 u1) u2)) h4 fun h5 => kk x p u1 u2 h5
theorem i_mE_rev {mc : MC} {a} {zz} {R : Expr → Prop} (h : mE mc (.rev a) zz = true) (kk : ∀ x p u1 u2 u3 u4 u5, (mE mc a (.Name x p)) = true → R (.Subscript (.Name x p) (.Slice none none (some (.UnaryOp .USub (.Constant (.int 1) u1 u2) u3)) u4) u5)) : R zz :=
  qESubscript_i (show qESubscript (fun w1 w2 u5 => qEName (fun x p => qESlice (fun w3 w4 w5 u4 => qN (qN (qS (fun w6 => qEUnaryOp (fun w7 w8 u3 => qUSub (qEConstant (fun w9 u1 u2 => qCint (fun w10 => qI 1 (mE mc a (.Name x p)) w10) w9) w8) w7) w6) w5) w4) w3) w2) w1) zz = true from h) fun w1 w2 u5 h0 => qEName_i (R := fun w1 => R (.Subscript w1 w2 u5)) h0 fun x p h1 => qESlice_i (R := fun w2 => R (.Subscript (.Name x p) w2 u5)) h1 fun w3 w4 w5 u4 h2 => qN_i (R := fun w3 => R (.Subscript (.Name x p) (.Slice w3 w4 w5 u4) u5)) h2 fun h3 => qN_i (R := fun w4 => R (.Subscript (.Name x p) (.Slice none w4 w5 u4) u5)) h3 fun h4 => qS_i (R := fun w5 => R (.Subscript (.Name x p) (.Slice none none w5 u4) u5)) h4 fun w6 h5 => qEUnaryOp_i (R := fun w6 => R (.Subscript (.Name x p) (.Slice none none (some w6) u4) u5)) h5 fun w7 w8 u3 h6 => qUSub_i (R := fun w7 => R (.Subscript (.Name x p) (.Slice none none (some (.UnaryOp w7 w8 u3)) u4) u5)) h6 fun h7 => qEConstant_i (R := fun w8 => R (.Subscript (.Name x p) (.Slice none none (some (.UnaryOp .USub w8 u3)) u4) u5)) h7 fun w9 u1 u2 h8 => qCint_i (R := fun w9 => R (.Subscript (.Name x p) (.Slice none none (some (.UnaryOp .USub (.Constant w9 u1 u2) u3)) u4) u5)) h8 fun w10 h9 => qI_i (R := fun w10 => R (.Subscript (.Name x p) (.Slice none none (some (.UnaryOp .USub (.Constant (.int w10) u1 u2) u3)) u4) u5)) h9 fun h10 => kk x p u1 u2 u3 u4 u5 h10
theorem i_mE_lst {mc : MC} {es} {zz} {R : Expr → Prop} (h : mE mc (.lst es) zz = true) (kk : ∀ xs u1, (mEs mc es xs) = true → R (.List xs u1)) : R zz :=
  qEList_i (show qEList (fun xs u1 => mEs mc es xs) zz = true from h) fun xs u1 h0 => kk xs u1 h0
theorem i_mE_tup {mc : MC} {es} {zz} {R : Expr → Prop} (h : mE mc (.tup es) zz = true) (kk : ∀ xs u1 u2, (mEs mc es xs) = true → R (.Tuple xs u1 u2)) : R zz :=
  qETuple_i (show qETuple (fun xs u1 u2 => mEs mc es xs) zz = true from h) fun xs u1 u2 h0 => kk xs u1 u2 h0
theorem i_mE_call {mc : MC} {f es} {zz} {R : Expr → Prop} (h : mE mc (.call f es) zz = true) (kk : ∀ x p y ys u1, (mE mc f (.Name x p) && mEs mc es (y :: ys)) = true → R (.Call (.Name x p) (y :: ys) [] u1)) : R zz :=
  qECall_i (show qECall (fun w1 w2 w3 u1 => qEName (fun x p => qLc (fun y ys => qL0 (mE mc f (.Name x p) && mEs mc es (y :: ys)) w3) w2) w1) zz = true from h) fun w1 w2 w3 u1 h0 => qEName_i (R := fun w1 => R (.Call w1 w2 w3 u1)) h0 fun x p h1 => qLc_i (R := fun w2 => R (.Call (.Name x p) w2 w3 u1)) h1 fun y ys h2 => qL0_i (R := fun w3 => R (.Call (.Name x p) (y :: ys) w3 u1)) h2 fun h3 => kk x p y ys u1 h3
theorem i_mE_len {mc : MC} {a} {zz} {R : Expr → Prop} (h : mE mc (.len a) zz = true) (kk : ∀ x u1 e u2, (mc.blt x "len" && mE mc a e) = true → R (.Call (.Name x u1) [e] [] u2)) : R zz :=
  qECall_i (show qECall (fun w1 w2 w3 u2 => qEName (fun x u1 => qLc (fun e w4 => qL0 (qL0 (mc.blt x "len" && mE mc a e) w3) w4) w2) w1) zz = true from h) fun w1 w2 w3 u2 h0 => qEName_i (R := fun w1 => R (.Call w1 w2 w3 u2)) h0 fun x u1 h1 => qLc_i (R := fun w2 => R (.Call (.Name x u1) w2 w3 u2)) h1 fun e w4 h2 => qL0_i (R := fun w4 => R (.Call (.Name x u1) (e :: w4) w3 u2)) h2 fun h3 => qL0_i (R := fun w3 => R (.Call (.Name x u1) (e :: []) w3 u2)) h3 fun h4 => kk x u1 e u2 h4
theorem i_mE_abs {mc : MC} {a} {zz} {R : Expr → Prop} (h : mE mc (.abs a) zz = true) (kk : ∀ x u1 e u2, (mc.blt x "abs" && mE mc a e) = true → R (.Call (.Name x u1) [e] [] u2)) : R zz :=
  qECall_i (show qECall (fun w1 w2 w3 u2 => qEName (fun x u1 => qLc (fun e w4 => qL0 (qL0 (mc.blt x "abs" && mE mc a e) w3) w4) w2) w1) zz = true from h) fun w1 w2 w3 u2 h0 => qEName_i (R := fun w1 => R (.Call w1 w2 w3 u2)) h0 fun x u1 h1 => qLc_i (R := fun w2 => R (.Call (.Name x u1) w2 w3 u2)) h1 fun e w4 h2 => qL0_i (R := fun w4 => R (.Call (.Name x u1) (e :: w4) w3 u2)) h2 fun h3 => qL0_i (R := fun w3 => R (.Call (.Name x u1) (e :: []) w3 u2)) h3 fun h4 => kk x u1 e u2 h4
theorem i_mE_toi {mc : MC} {a} {zz} {R : Expr → Prop} (h : mE mc (.toi a) zz = true) (kk : ∀ x u1 e u2, (mc.blt x "int" && mE mc a e) = true → R (.Call (.Name x u1) [e] [] u2)) : R zz :=
  qECall_i (show qECall (fun w1 w2 w3 u2 => qEName (fun x u1 => qLc (fun e w4 => qL0 (qL0 (mc.blt x "int" && mE mc a e) w3) w4) w2) w1) zz = true from h) fun w1 w2 w3 u2 h0 => qEName_i (R := fun w1 => R (.Call w1 w2 w3 u2)) h0 fun x u1 h1 => qLc_i (R := fun w2 => R (.Call (.Name x u1) w2 w3 u2)) h1 fun e w4 h2 => qL0_i (R := fun w4 => R (.Call (.Name x u1) (e :: w4) w3 u2)) h2 fun h3 => qL0_i (R := fun w3 => R (.Call (.Name x u1) (e :: []) w3 u2)) h3 fun h4 => kk x u1 e u2 h4
theorem i_mE_sum {mc : MC} {a} {zz} {R : Expr → Prop} (h : mE mc (.sum a) zz = true) (kk : ∀ x u1 e u2, (mc.blt x "sum" && mE mc a e) = true → R (.Call (.Name x u1) [e] [] u2)) : R zz :=
  qECall_i (show qECall (fun w1 w2 w3 u2 => qEName (fun x u1 => qLc (fun e w4 => qL0 (qL0 (mc.blt x "sum" && mE mc a e) w3) w4) w2) w1) zz = true from h) fun w1 w2 w3 u2 h0 => qEName_i (R := fun w1 => R (.Call w1 w2 w3 u2)) h0 fun x u1 h1 => qLc_i (R := fun w2 => R (.Call (.Name x u1) w2 w3 u2)) h1 fun e w4 h2 => qL0_i (R := fun w4 => R (.Call (.Name x u1) (e :: w4) w3 u2)) h2 fun h3 => qL0_i (R := fun w3 => R (.Call (.Name x u1) (e :: []) w3 u2)) h3 fun h4 => kk x u1 e u2 h4
theorem i_mE_min {mc : MC} {a b} {zz} {R : Expr → Prop} (h : mE mc (.min a b) zz = true) (kk : ∀ x u1 e e' u2, (mc.blt x "min" && mE mc a e && mE mc b e') = true → R (.Call (.Name x u1) [e, e'] [] u2)) : R zz :=
  qECall_i (show qECall (fun w1 w2 w3 u2 => qEName (fun x u1 => qLc (fun e w4 => qLc (fun e' w5 => qL0 (qL0 (mc.blt x "min" && mE mc a e && mE mc b e') w3) w5) w4) w2) w1) zz = true from h) fun w1 w2 w3 u2 h0 => qEName_i (R := fun w1 => R (.Call w1 w2 w3 u2)) h0 fun x u1 h1 => qLc_i (R := fun w2 => R (.Call (.Name x u1) w2 w3 u2)) h1 fun e w4 h2 => qLc_i (R := fun w4 => R (.Call (.Name x u1) (e :: w4) w3 u2)) h2 fun e' w5 h3 => qL0_i (R := fun w5 => R (.Call (.Name x u1) (e :: (e' :: w5)) w3 u2)) h3 fun h4 => qL0_i (R := fun w3 => R (.Call (.Name x u1) (e :: (e' :: [])) w3 u2)) h4 fun h5 => kk x u1 e e' u2 h5
theorem i_mE_max {mc : MC} {a b} {zz} {R : Expr → Prop} (h : mE mc (.max a b) zz = true) (kk : ∀ x u1 e e' u2, (mc.blt x "max" && mE mc a e && mE mc b e') = true → R (.Call (.Name x u1) [e, e'] [] u2)) : R zz :=
  qECall_i (show qECall (fun w1 w2 w3 u2 => qEName (fun x u1 => qLc (fun e w4 => qLc (fun e' w5 => qL0 (qL0 (mc.blt x "max" && mE mc a e && mE mc b e') w3) w5) w4) w2) w1) zz = true from h) fun w1 w2 w3 u2 h0 => qEName_i (R := fun w1 => R (.Call w1 w2 w3 u2)) h0 fun x u1 h1 => qLc_i (R := fun w2 => R (.Call (.Name x u1) w2 w3 u2)) h1 fun e w4 h2 => qLc_i (R := fun w4 => R (.Call (.Name x u1) (e :: w4) w3 u2)) h2 fun e' w5 h3 => qL0_i (R := fun w5 => R (.Call (.Name x u1) (e :: (e' :: w5)) w3 u2)) h3 fun h4 => qL0_i (R := fun w3 => R (.Call (.Name x u1) (e :: (e' :: [])) w3 u2)) h4 fun h5 => kk x u1 e e' u2 h5
theorem i_mE_bitlen {mc : MC} {a} {zz} {R : Expr → Prop} (h : mE mc (.bitlen a) zz = true) (kk : ∀ o x ap pos, (x == ("bit_length" : Str) && mE mc a o && ap.endLine == pos.line) = true → R (.Call (.Attribute o x ap) [] [] pos)) : R zz :=
  qECall_i (show qECall (fun w1 w2 w3 pos => qEAttribute (fun o x ap => qL0 (qL0 (x == ("bit_length" : Str) && mE mc a o && ap.endLine == pos.line) w3) w2) w1) zz = true from h) fun w1 w2 w3 pos h0 => qEAttribute_i (R := fun w1 => R (.Call w1 w2 w3 pos)) h0 fun o x ap h1 => qL0_i (R := fun w2 => R (.Call (.Attribute o x ap) w2 w3 pos)) h1 fun h2 => qL0_i (R := fun w3 => R (.Call (.Attribute o x ap) [] w3 pos)) h2 fun h3 => kk o x ap pos h3
theorem i_mE_cmpL {mc : MC} {src elt} {zz} {R : Expr → Prop} (h : mE mc (.cmpL src elt) zz = true) (kk : ∀ e x u1 it sc u2, (mE mc src it && subOk mc sc [x] && mE (mc.sub sc [x]) elt e) = true → R (.ListComp e [⟨(.Name x u1), it, [], 0⟩] sc u2)) : R zz :=
  qEListComp_i (show qEListComp (fun e w1 sc u2 => qLc (fun w2 w3 => qG (fun w4 it w5 w6 => qEName (fun x u1 => qL0 (qI 0 (qL0 (mE mc src it && subOk mc sc [x] && mE (mc.sub sc [x]) elt e) w3) w6) w5) w4) w2) w1) zz = true from h) fun e w1 sc u2 h0 => qLc_i (R := fun w1 => R (.ListComp e w1 sc u2)) h0 fun w2 w3 h1 => qG_i (R := fun w2 => R (.ListComp e (w2 :: w3) sc u2)) h1 fun w4 it w5 w6 h2 => qEName_i (R := fun w4 => R (.ListComp e (⟨w4, it, w5, w6⟩ :: w3) sc u2)) h2 fun x u1 h3 => qL0_i (R := fun w5 => R (.ListComp e (⟨(.Name x u1), it, w5, w6⟩ :: w3) sc u2)) h3 fun h4 => qI_i (R := fun w6 => R (.ListComp e (⟨(.Name x u1), it, [], w6⟩ :: w3) sc u2)) h4 fun h5 => qL0_i (R := fun w3 => R (.ListComp e (⟨(.Name x u1), it, [], 0⟩ :: w3) sc u2)) h5 fun h6 => kk e x u1 it sc u2 h6
theorem i_mE_cmpE {mc : MC} {src elt} {zz} {R : Expr → Prop} (h : mE mc (.cmpE src elt) zz = true) (kk : ∀ e x u1 y u2 u3 u4 f u5 it u6 sc u7, (mc.blt f "enumerate" && mE mc src it && x != y && subOk mc sc [x, y] && mE (mc.sub sc [x, y]) elt e) = true → R (.ListComp e [⟨(.Tuple [(.Name x u1), (.Name y u2)] u3 u4), (.Call (.Name f u5) [it] [] u6), [], 0⟩] sc u7)) : R zz :=
  qEListComp_i (show qEListComp (fun e w1 sc u7 => qLc (fun w2 w3 => qG (fun w4 w5 w6 w7 => qETuple (fun w8 u3 u4 => qLc (fun w9 w10 => qEName (fun x u1 => qLc (fun w11 w12 => qEName (fun y u2 => qL0 (qECall (fun w13 w14 w15 u6 => qEName (fun f u5 => qLc (fun it w16 => qL0 (qL0 (qL0 (qI 0 (qL0 (mc.blt f "enumerate" && mE mc src it && x != y && subOk mc sc [x, y] && mE (mc.sub sc [x, y]) elt e) w3) w7) w6) w15) w16) w14) w13) w5) w12) w11) w10) w9) w8) w4) w2) w1) zz = true from h) fun e w1 sc u7 h0 => qLc_i (R := fun w1 => R (.ListComp e w1 sc u7)) h0 fun w2 w3 h1 => qG_i (R := fun w2 => R (.ListComp e (w2 :: w3) sc u7)) h1 fun w4 w5 w6 w7 h2 => qETuple_i (R := fun w4 => R (.ListComp e (⟨w4, w5, w6, w7⟩ :: w3) sc u7)) h2 fun w8 u3 u4 h3 => qLc_i (R := fun w8 => R (.ListComp e (⟨(.Tuple w8 u3 u4), w5, w6, w7⟩ :: w3) sc u7)) h3 fun w9 w10 h4 => qEName_i (R := fun w9 => R (.ListComp e (⟨(.Tuple (w9 :: w10) u3 u4), w5, w6, w7⟩ :: w3) sc u7)) h4 fun x u1 h5 => qLc_i (R := fun w10 => R (.ListComp e (⟨(.Tuple ((.Name x u1) :: w10) u3 u4), w5, w6, w7⟩ :: w3) sc u7)) h5 fun w11 w12 h6 => qEName_i (R := fun w11 => R (.ListComp e (⟨(.Tuple ((.Name x u1) :: (w11 :: w12)) u3 u4), w5, w6, w7⟩ :: w3) sc u7)) h6 fun y u2 h7 => qL0_i (R := fun w12 => R (.ListComp e (⟨(.Tuple ((.Name x u1) :: ((.Name y u2) :: w12)) u3 u4), w5, w6, w7⟩ :: w3) sc u7)) h7 fun h8 => qECall_i (R := fun w5 => R (.ListComp e (⟨(.Tuple ((.Name x u1) :: ((.Name y u2) :: [])) u3 u4), w5, w6, w7⟩ :: w3) sc u7)) h8 fun w13 w14 w15 u6 h9 => qEName_i (R := fun w13 => R (.ListComp e (⟨(.Tuple ((.Name x u1) :: ((.Name y u2) :: [])) u3 u4), (.Call w13 w14 w15 u6), w6, w7⟩ :: w3) sc u7)) h9 fun f u5 h10 => qLc_i (R := fun w14 => R (.ListComp e (⟨(.Tuple ((.Name x u1) :: ((.Name y u2) :: [])) u3 u4), (.Call (.Name f u5) w14 w15 u6), w6, w7⟩ :: w3) sc u7)) h10 fun it w16 h11 => qL0_i (R := fun w16 => R (.ListComp e (⟨(.Tuple ((.Name x u1) :: ((.Name y u2) :: [])) u3 u4), (.Call (.Name f u5) (it :: w16) w15 u6), w6, w7⟩ :: w3) sc u7)) h11 fun h12 => qL0_i (R := fun w15 => R (.ListComp e (⟨(.Tuple ((.Name x u1) :: ((.Name y u2) :: [])) u3 u4), (.Call (.Name f u5) (it :: []) w15 u6), w6, w7⟩ :: w3) sc u7)) h12 fun h13 => qL0_i (R := fun w6 => R (.ListComp e (⟨(.Tuple ((.Name x u1) :: ((.Name y u2) :: [])) u3 u4), (.Call (.Name f u5) (it :: []) [] u6), w6, w7⟩ :: w3) sc u7)) h13 fun h14 => qI_i (R := fun w7 => R (.ListComp e (⟨(.Tuple ((.Name x u1) :: ((.Name y u2) :: [])) u3 u4), (.Call (.Name f u5) (it :: []) [] u6), [], w7⟩ :: w3) sc u7)) h14 fun h15 => qL0_i (R := fun w3 => R (.ListComp e (⟨(.Tuple ((.Name x u1) :: ((.Name y u2) :: [])) u3 u4), (.Call (.Name f u5) (it :: []) [] u6), [], 0⟩ :: w3) sc u7)) h15 fun h16 => kk e x u1 y u2 u3 u4 f u5 it u6 sc u7 h16
theorem i_mE_cmpR {mc : MC} {r elt} {zz} {R : Expr → Prop} (h : mE mc (.cmpR r elt) zz = true) (kk : ∀ e x u1 it sc u2, (mR mc r it && subOk mc sc [x] && mE (mc.sub sc [x]) elt e) = true → R (.ListComp e [⟨(.Name x u1), it, [], 0⟩] sc u2)) : R zz :=
  qEListComp_i (show qEListComp (fun e w1 sc u2 => qLc (fun w2 w3 => qG (fun w4 it w5 w6 => qEName (fun x u1 => qL0 (qI 0 (qL0 (mR mc r it && subOk mc sc [x] && mE (mc.sub sc [x]) elt e) w3) w6) w5) w4) w2) w1) zz = true from h) fun e w1 sc u2 h0 => qLc_i (R := fun w1 => R (.ListComp e w1 sc u2)) h0 fun w2 w3 h1 => qG_i (R := fun w2 => R (.ListComp e (w2 :: w3) sc u2)) h1 fun w4 it w5 w6 h2 => qEName_i (R := fun w4 => R (.ListComp e (⟨w4, it, w5, w6⟩ :: w3) sc u2)) h2 fun x u1 h3 => qL0_i (R := fun w5 => R (.ListComp e (⟨(.Name x u1), it, w5, w6⟩ :: w3) sc u2)) h3 fun h4 => qI_i (R := fun w6 => R (.ListComp e (⟨(.Name x u1), it, [], w6⟩ :: w3) sc u2)) h4 fun h5 => qL0_i (R := fun w3 => R (.ListComp e (⟨(.Name x u1), it, [], 0⟩ :: w3) sc u2)) h5 fun h6 => kk e x u1 it sc u2 h6
theorem i_mR_r1 {mc : MC} {hi} {zz} {R : Expr → Prop} (h : mR mc (.r1 hi) zz = true) (kk : ∀ x u1 e u2, (mc.blt x "range" && mE mc hi e) = true → R (.Call (.Name x u1) [e] [] u2)) : R zz :=
  qECall_i (show qECall (fun w1 w2 w3 u2 => qEName (fun x u1 => qLc (fun e w4 => qL0 (qL0 (mc.blt x "range" && mE mc hi e) w3) w4) w2) w1) zz = true from h) fun w1 w2 w3 u2 h0 => qEName_i (R := fun w1 => R (.Call w1 w2 w3 u2)) h0 fun x u1 h1 => qLc_i (R := fun w2 => R (.Call (.Name x u1) w2 w3 u2)) h1 fun e w4 h2 => qL0_i (R := fun w4 => R (.Call (.Name x u1) (e :: w4) w3 u2)) h2 fun h3 => qL0_i (R := fun w3 => R (.Call (.Name x u1) (e :: []) w3 u2)) h3 fun h4 => kk x u1 e u2 h4
theorem i_mR_r2 {mc : MC} {lo hi} {zz} {R : Expr → Prop} (h : mR mc (.r2 lo hi) zz = true) (kk : ∀ x u1 e e' u2, (mc.blt x "range" && mE mc lo e && mE mc hi e') = true → R (.Call (.Name x u1) [e, e'] [] u2)) : R zz :=
  qECall_i (show qECall (fun w1 w2 w3 u2 => qEName (fun x u1 => qLc (fun e w4 => qLc (fun e' w5 => qL0 (qL0 (mc.blt x "range" && mE mc lo e && mE mc hi e') w3) w5) w4) w2) w1) zz = true from h) fun w1 w2 w3 u2 h0 => qEName_i (R := fun w1 => R (.Call w1 w2 w3 u2)) h0 fun x u1 h1 => qLc_i (R := fun w2 => R (.Call (.Name x u1) w2 w3 u2)) h1 fun e w4 h2 => qLc_i (R := fun w4 => R (.Call (.Name x u1) (e :: w4) w3 u2)) h2 fun e' w5 h3 => qL0_i (R := fun w5 => R (.Call (.Name x u1) (e :: (e' :: w5)) w3 u2)) h3 fun h4 => qL0_i (R := fun w3 => R (.Call (.Name x u1) (e :: (e' :: [])) w3 u2)) h4 fun h5 => kk x u1 e e' u2 h5
theorem i_mR_r3 {mc : MC} {lo hi st} {zz} {R : Expr → Prop} (h : mR mc (.r3 lo hi st) zz = true) (kk : ∀ x u1 e e' e'' u2, (mc.blt x "range" && mE mc lo e && mE mc hi e' && mE mc st e'') = true → R (.Call (.Name x u1) [e, e', e''] [] u2)) : R zz :=
  qECall_i (show qECall (fun w1 w2 w3 u2 => qEName (fun x u1 => qLc (fun e w4 => qLc (fun e' w5 => qLc (fun e'' w6 => qL0 (qL0 (mc.blt x "range" && mE mc lo e && mE mc hi e' && mE mc st e'') w3) w6) w5) w4) w2) w1) zz = true from h) fun w1 w2 w3 u2 h0 => qEName_i (R := fun w1 => R (.Call w1 w2 w3 u2)) h0 fun x u1 h1 => qLc_i (R := fun w2 => R (.Call (.Name x u1) w2 w3 u2)) h1 fun e w4 h2 => qLc_i (R := fun w4 => R (.Call (.Name x u1) (e :: w4) w3 u2)) h2 fun e' w5 h3 => qLc_i (R := fun w5 => R (.Call (.Name x u1) (e :: (e' :: w5)) w3 u2)) h3 fun e'' w6 h4 => qL0_i (R := fun w6 => R (.Call (.Name x u1) (e :: (e' :: (e'' :: w6))) w3 u2)) h4 fun h5 => qL0_i (R := fun w3 => R (.Call (.Name x u1) (e :: (e' :: (e'' :: []))) w3 u2)) h5 fun h6 => kk x u1 e e' e'' u2 h6
theorem i_mC_cmp {mc : MC} {op a b} {zz} {R : Expr → Prop} (h : mC mc (.cmp op a b) zz = true) (kk : ∀ l o r u1, (cpM op o && mE mc a l && mE mc b r) = true → R (.Compare l [o] [r] u1)) : R zz :=
  qECompare_i (show qECompare (fun l w1 w2 u1 => qLc (fun o w3 => qL0 (qLc (fun r w4 => qL0 (cpM op o && mE mc a l && mE mc b r) w4) w2) w3) w1) zz = true from h) fun l w1 w2 u1 h0 => qLc_i (R := fun w1 => R (.Compare l w1 w2 u1)) h0 fun o w3 h1 => qL0_i (R := fun w3 => R (.Compare l (o :: w3) w2 u1)) h1 fun h2 => qLc_i (R := fun w2 => R (.Compare l (o :: []) w2 u1)) h2 fun r w4 h3 => qL0_i (R := fun w4 => R (.Compare l (o :: []) (r :: w4) u1)) h3 fun h4 => kk l o r u1 h4
theorem i_mC_cmp2 {mc : MC} {o₁ o₂ a b c} {zz} {R : Expr → Prop} (h : mC mc (.cmp2 o₁ o₂ a b c) zz = true) (kk : ∀ l p₁ p₂ r t u1, (cpM o₁ p₁ && cpM o₂ p₂ && mE mc a l && mE mc b r && mE mc c t) = true → R (.Compare l [p₁, p₂] [r, t] u1)) : R zz :=
  qECompare_i (show qECompare (fun l w1 w2 u1 => qLc (fun p₁ w3 => qLc (fun p₂ w4 => qL0 (qLc (fun r w5 => qLc (fun t w6 => qL0 (cpM o₁ p₁ && cpM o₂ p₂ && mE mc a l && mE mc b r && mE mc c t) w6) w5) w2) w4) w3) w1) zz = true from h) fun l w1 w2 u1 h0 => qLc_i (R := fun w1 => R (.Compare l w1 w2 u1)) h0 fun p₁ w3 h1 => qLc_i (R := fun w3 => R (.Compare l (p₁ :: w3) w2 u1)) h1 fun p₂ w4 h2 => qL0_i (R := fun w4 => R (.Compare l (p₁ :: (p₂ :: w4)) w2 u1)) h2 fun h3 => qLc_i (R := fun w2 => R (.Compare l (p₁ :: (p₂ :: [])) w2 u1)) h3 fun r w5 h4 => qLc_i (R := fun w5 => R (.Compare l (p₁ :: (p₂ :: [])) (r :: w5) u1)) h4 fun t w6 h5 => qL0_i (R := fun w6 => R (.Compare l (p₁ :: (p₂ :: [])) (r :: (t :: w6)) u1)) h5 fun h6 => kk l p₁ p₂ r t u1 h6
theorem i_mC_and {mc : MC} {a b} {zz} {R : Expr → Prop} (h : mC mc (.and a b) zz = true) (kk : ∀ x y u1, (mC mc a x && mC mc b y) = true → R (.BoolOp .And [x, y] u1)) : R zz :=
  qEBoolOp_i (show qEBoolOp (fun w1 w2 u1 => qAnd (qLc (fun x w3 => qLc (fun y w4 => qL0 (mC mc a x && mC mc b y) w4) w3) w2) w1) zz = true from h) fun w1 w2 u1 h0 => qAnd_i (R := fun w1 => R (.BoolOp w1 w2 u1)) h0 fun h1 => qLc_i (R := fun w2 => R (.BoolOp .And w2 u1)) h1 fun x w3 h2 => qLc_i (R := fun w3 => R (.BoolOp .And (x :: w3) u1)) h2 fun y w4 h3 => qL0_i (R := fun w4 => R (.BoolOp .And (x :: (y :: w4)) u1)) h3 fun h4 => kk x y u1 h4
theorem i_mC_or {mc : MC} {a b} {zz} {R : Expr → Prop} (h : mC mc (.or a b) zz = true) (kk : ∀ x y u1, (mC mc a x && mC mc b y) = true → R (.BoolOp .Or [x, y] u1)) : R zz :=
  qEBoolOp_i (show qEBoolOp (fun w1 w2 u1 => qOr (qLc (fun x w3 => qLc (fun y w4 => qL0 (mC mc a x && mC mc b y) w4) w3) w2) w1) zz = true from h) fun w1 w2 u1 h0 => qOr_i (R := fun w1 => R (.BoolOp w1 w2 u1)) h0 fun h1 => qLc_i (R := fun w2 => R (.BoolOp .Or w2 u1)) h1 fun x w3 h2 => qLc_i (R := fun w3 => R (.BoolOp .Or (x :: w3) u1)) h2 fun y w4 h3 => qL0_i (R := fun w4 => R (.BoolOp .Or (x :: (y :: w4)) u1)) h3 fun h4 => kk x y u1 h4
theorem i_mC_not {mc : MC} {a} {zz} {R : Expr → Prop} (h : mC mc (.not a) zz = true) (kk : ∀ x u1, (mC mc a x) = true → R (.UnaryOp .Not x u1)) : R zz :=
  qEUnaryOp_i (show qEUnaryOp (fun w1 x u1 => qNot (mC mc a x) w1) zz = true from h) fun w1 x u1 h0 => qNot_i (R := fun w1 => R (.UnaryOp w1 x u1)) h0 fun h1 => kk x u1 h1
theorem i_mS_asg {mc : MC} {i e} {zz} {R : Stmt → Prop} (h : mS mc (.asg i e) zz = true) (kk : ∀ x u1 v u2, (mc.isVar i x && mE mc e v) = true → R (.Assign [(.Name x u1)] v u2)) : R zz :=
  qSAssign_i (show qSAssign (fun w1 v u2 => qLc (fun w2 w3 => qEName (fun x u1 => qL0 (mc.isVar i x && mE mc e v) w3) w2) w1) zz = true from h) fun w1 v u2 h0 => qLc_i (R := fun w1 => R (.Assign w1 v u2)) h0 fun w2 w3 h1 => qEName_i (R := fun w2 => R (.Assign (w2 :: w3) v u2)) h1 fun x u1 h2 => qL0_i (R := fun w3 => R (.Assign ((.Name x u1) :: w3) v u2)) h2 fun h3 => kk x u1 v u2 h3
theorem i_mS_asgT {mc : MC} {is e} {zz} {R : Stmt → Prop} (h : mS mc (.asgT is e) zz = true) (kk : ∀ ts u1 u2 f args kw p u3, (mTs mc is ts && mE mc e (.Call f args kw p)) = true → R (.Assign [(.Tuple ts u1 u2)] (.Call f args kw p) u3)) : R zz :=
  qSAssign_i (show qSAssign (fun w1 w2 u3 => qLc (fun w3 w4 => qETuple (fun ts u1 u2 => qL0 (qECall (fun f args kw p => mTs mc is ts && mE mc e (.Call f args kw p)) w2) w4) w3) w1) zz = true from h) fun w1 w2 u3 h0 => qLc_i (R := fun w1 => R (.Assign w1 w2 u3)) h0 fun w3 w4 h1 => qETuple_i (R := fun w3 => R (.Assign (w3 :: w4) w2 u3)) h1 fun ts u1 u2 h2 => qL0_i (R := fun w4 => R (.Assign ((.Tuple ts u1 u2) :: w4) w2 u3)) h2 fun h3 => qECall_i (R := fun w2 => R (.Assign ((.Tuple ts u1 u2) :: []) w2 u3)) h3 fun f args kw p h4 => kk ts u1 u2 f args kw p u3 h4
theorem i_mS_asgTT {mc : MC} {is es} {zz} {R : Stmt → Prop} (h : mS mc (.asgTT is es) zz = true) (kk : ∀ ts u1 u2 vs u3 u4 u5, (mTs mc is ts && mEs mc es vs && (is.length == 2 || is.length == 3) && is.Nodup && !vs.all (constantsAlone 8)) = true → R (.Assign [(.Tuple ts u1 u2)] (.Tuple vs u3 u4) u5)) : R zz :=
  qSAssign_i (show qSAssign (fun w1 w2 u5 => qLc (fun w3 w4 => qETuple (fun ts u1 u2 => qL0 (qETuple (fun vs u3 u4 => mTs mc is ts && mEs mc es vs && (is.length == 2 || is.length == 3) && is.Nodup && !vs.all (constantsAlone 8)) w2) w4) w3) w1) zz = true from h) fun w1 w2 u5 h0 => qLc_i (R := fun w1 => R (.Assign w1 w2 u5)) h0 fun w3 w4 h1 => qETuple_i (R := fun w3 => R (.Assign (w3 :: w4) w2 u5)) h1 fun ts u1 u2 h2 => qL0_i (R := fun w4 => R (.Assign ((.Tuple ts u1 u2) :: w4) w2 u5)) h2 fun h3 => qETuple_i (R := fun w2 => R (.Assign ((.Tuple ts u1 u2) :: []) w2 u5)) h3 fun vs u3 u4 h4 => kk ts u1 u2 vs u3 u4 u5 h4
theorem i_mS_setIdx {mc : MC} {a i v} {zz} {R : Stmt → Prop} (h : mS mc (.setIdx a i v) zz = true) (kk : ∀ o j u1 e u2, (mE mc v e && mE mc a o && mE mc i j && !isComp e) = true → R (.Assign [(.Subscript o j u1)] e u2)) : R zz :=
  qSAssign_i (show qSAssign (fun w1 e u2 => qLc (fun w2 w3 => qESubscript (fun o j u1 => qL0 (mE mc v e && mE mc a o && mE mc i j && !isComp e) w3) w2) w1) zz = true from h) fun w1 e u2 h0 => qLc_i (R := fun w1 => R (.Assign w1 e u2)) h0 fun w2 w3 h1 => qESubscript_i (R := fun w2 => R (.Assign (w2 :: w3) e u2)) h1 fun o j u1 h2 => qL0_i (R := fun w3 => R (.Assign ((.Subscript o j u1) :: w3) e u2)) h2 fun h3 => kk o j u1 e u2 h3
theorem i_mS_aug {mc : MC} {i op e} {zz} {R : Stmt → Prop} (h : mS mc (.aug i op e) zz = true) (kk : ∀ x u1 o v u2, (mc.isVar i x && opM op o && mE mc e v) = true → R (.AugAssign (.Name x u1) o v u2)) : R zz :=
  qSAugAssign_i (show qSAugAssign (fun w1 o v u2 => qEName (fun x u1 => mc.isVar i x && opM op o && mE mc e v) w1) zz = true from h) fun w1 o v u2 h0 => qEName_i (R := fun w1 => R (.AugAssign w1 o v u2)) h0 fun x u1 h1 => kk x u1 o v u2 h1
theorem i_mS_app {mc : MC} {a v} {zz} {R : Stmt → Prop} (h : mS mc (.app a v) zz = true) (kk : ∀ o x ap e pos u1, (x == ("append" : Str) && mE mc a o && mE mc v e && ap.endLine == pos.line) = true → R (.Expr (.Call (.Attribute o x ap) [e] [] pos) u1)) : R zz :=
  qSExpr_i (show qSExpr (fun w1 u1 => qECall (fun w2 w3 w4 pos => qEAttribute (fun o x ap => qLc (fun e w5 => qL0 (qL0 (x == ("append" : Str) && mE mc a o && mE mc v e && ap.endLine == pos.line) w4) w5) w3) w2) w1) zz = true from h) fun w1 u1 h0 => qECall_i (R := fun w1 => R (.Expr w1 u1)) h0 fun w2 w3 w4 pos h1 => qEAttribute_i (R := fun w2 => R (.Expr (.Call w2 w3 w4 pos) u1)) h1 fun o x ap h2 => qLc_i (R := fun w3 => R (.Expr (.Call (.Attribute o x ap) w3 w4 pos) u1)) h2 fun e w5 h3 => qL0_i (R := fun w5 => R (.Expr (.Call (.Attribute o x ap) (e :: w5) w4 pos) u1)) h3 fun h4 => qL0_i (R := fun w4 => R (.Expr (.Call (.Attribute o x ap) (e :: []) w4 pos) u1)) h4 fun h5 => kk o x ap e pos u1 h5
theorem i_mS_rever {mc : MC} {a} {zz} {R : Stmt → Prop} (h : mS mc (.rever a) zz = true) (kk : ∀ o x ap pos u1, (x == ("reverse" : Str) && mE mc a o && ap.endLine == pos.line) = true → R (.Expr (.Call (.Attribute o x ap) [] [] pos) u1)) : R zz :=
  qSExpr_i (show qSExpr (fun w1 u1 => qECall (fun w2 w3 w4 pos => qEAttribute (fun o x ap => qL0 (qL0 (x == ("reverse" : Str) && mE mc a o && ap.endLine == pos.line) w4) w3) w2) w1) zz = true from h) fun w1 u1 h0 => qECall_i (R := fun w1 => R (.Expr w1 u1)) h0 fun w2 w3 w4 pos h1 => qEAttribute_i (R := fun w2 => R (.Expr (.Call w2 w3 w4 pos) u1)) h1 fun o x ap h2 => qL0_i (R := fun w3 => R (.Expr (.Call (.Attribute o x ap) w3 w4 pos) u1)) h2 fun h3 => qL0_i (R := fun w4 => R (.Expr (.Call (.Attribute o x ap) [] w4 pos) u1)) h3 fun h4 => kk o x ap pos u1 h4
theorem i_mS_ifs {mc : MC} {c t e} {zz} {R : Stmt → Prop} (h : mS mc (.ifs c t e) zz = true) (kk : ∀ x b o u1, (mC mc c x && mSs mc t b && mSs mc e o) = true → R (.If x b o u1)) : R zz :=
  qSIf_i (show qSIf (fun x b o u1 => mC mc c x && mSs mc t b && mSs mc e o) zz = true from h) fun x b o u1 h0 => kk x b o u1 h0
theorem i_mS_whl {mc : MC} {c b} {zz} {R : Stmt → Prop} (h : mS mc (.whl c b) zz = true) (kk : ∀ x y u1, (mC mc c x && mSs mc b y) = true → R (.While x y [] u1)) : R zz :=
  qSWhile_i (show qSWhile (fun x y w1 u1 => qL0 (mC mc c x && mSs mc b y) w1) zz = true from h) fun x y w1 u1 h0 => qL0_i (R := fun w1 => R (.While x y w1 u1)) h0 fun h1 => kk x y u1 h1
theorem i_mS_forR {mc : MC} {i r b} {zz} {R : Stmt → Prop} (h : mS mc (.forR i r b) zz = true) (kk : ∀ x u1 it y u2, (mc.isVar i x && mR mc r it && mSs mc b y) = true → R (.For (.Name x u1) it y [] u2)) : R zz :=
  qSFor_i (show qSFor (fun w1 it y w2 u2 => qEName (fun x u1 => qL0 (mc.isVar i x && mR mc r it && mSs mc b y) w2) w1) zz = true from h) fun w1 it y w2 u2 h0 => qEName_i (R := fun w1 => R (.For w1 it y w2 u2)) h0 fun x u1 h1 => qL0_i (R := fun w2 => R (.For (.Name x u1) it y w2 u2)) h1 fun h2 => kk x u1 it y u2 h2
theorem i_mS_forL {mc : MC} {i e b} {zz} {R : Stmt → Prop} (h : mS mc (.forL i e b) zz = true) (kk : ∀ x u1 it y u2, (mc.isVar i x && mE mc e it && mSs mc b y) = true → R (.For (.Name x u1) it y [] u2)) : R zz :=
  qSFor_i (show qSFor (fun w1 it y w2 u2 => qEName (fun x u1 => qL0 (mc.isVar i x && mE mc e it && mSs mc b y) w2) w1) zz = true from h) fun w1 it y w2 u2 h0 => qEName_i (R := fun w1 => R (.For w1 it y w2 u2)) h0 fun x u1 h1 => qL0_i (R := fun w2 => R (.For (.Name x u1) it y w2 u2)) h1 fun h2 => kk x u1 it y u2 h2
theorem i_mS_forE {mc : MC} {i j e b} {zz} {R : Stmt → Prop} (h : mS mc (.forE i j e b) zz = true) (kk : ∀ x u1 x' u2 u3 u4 f u5 it u6 y u7, (mc.isVar i x && mc.isVar j x' && i != j && mc.blt f "enumerate" && mE mc e it && mSs mc b y) = true → R (.For (.Tuple [(.Name x u1), (.Name x' u2)] u3 u4) (.Call (.Name f u5) [it] [] u6) y [] u7)) : R zz :=
  qSFor_i (show qSFor (fun w1 w2 y w3 u7 => qETuple (fun w4 u3 u4 => qLc (fun w5 w6 => qEName (fun x u1 => qLc (fun w7 w8 => qEName (fun x' u2 => qL0 (qECall (fun w9 w10 w11 u6 => qEName (fun f u5 => qLc (fun it w12 => qL0 (qL0 (qL0 (mc.isVar i x && mc.isVar j x' && i != j && mc.blt f "enumerate" && mE mc e it && mSs mc b y) w3) w11) w12) w10) w9) w2) w8) w7) w6) w5) w4) w1) zz = true from h) fun w1 w2 y w3 u7 h0 => qETuple_i (R := fun w1 => R (.For w1 w2 y w3 u7)) h0 fun w4 u3 u4 h1 => qLc_i (R := fun w4 => R (.For (.Tuple w4 u3 u4) w2 y w3 u7)) h1 fun w5 w6 h2 => qEName_i (R := fun w5 => R (.For (.Tuple (w5 :: w6) u3 u4) w2 y w3 u7)) h2 fun x u1 h3 => qLc_i (R := fun w6 => R (.For (.Tuple ((.Name x u1) :: w6) u3 u4) w2 y w3 u7)) h3 fun w7 w8 h4 => qEName_i (R := fun w7 => R (.For (.Tuple ((.Name x u1) :: (w7 :: w8)) u3 u4) w2 y w3 u7)) h4 fun x' u2 h5 => qL0_i (R := fun w8 => R (.For (.Tuple ((.Name x u1) :: ((.Name x' u2) :: w8)) u3 u4) w2 y w3 u7)) h5 fun h6 => qECall_i (R := fun w2 => R (.For (.Tuple ((.Name x u1) :: ((.Name x' u2) :: [])) u3 u4) w2 y w3 u7)) h6 fun w9 w10 w11 u6 h7 => qEName_i (R := fun w9 => R (.For (.Tuple ((.Name x u1) :: ((.Name x' u2) :: [])) u3 u4) (.Call w9 w10 w11 u6) y w3 u7)) h7 fun f u5 h8 => qLc_i (R := fun w10 => R (.For (.Tuple ((.Name x u1) :: ((.Name x' u2) :: [])) u3 u4) (.Call (.Name f u5) w10 w11 u6) y w3 u7)) h8 fun it w12 h9 => qL0_i (R := fun w12 => R (.For (.Tuple ((.Name x u1) :: ((.Name x' u2) :: [])) u3 u4) (.Call (.Name f u5) (it :: w12) w11 u6) y w3 u7)) h9 fun h10 => qL0_i (R := fun w11 => R (.For (.Tuple ((.Name x u1) :: ((.Name x' u2) :: [])) u3 u4) (.Call (.Name f u5) (it :: []) w11 u6) y w3 u7)) h10 fun h11 => qL0_i (R := fun w3 => R (.For (.Tuple ((.Name x u1) :: ((.Name x' u2) :: [])) u3 u4) (.Call (.Name f u5) (it :: []) [] u6) y w3 u7)) h11 fun h12 => kk x u1 x' u2 u3 u4 f u5 it u6 y u7 h12
theorem i_mS_ret {mc : MC} {e} {zz} {R : Stmt → Prop} (h : mS mc (.ret e) zz = true) (kk : ∀ v u1, (mE mc e v) = true → R (.Return (some v) u1)) : R zz :=
  qSReturn_i (show qSReturn (fun w1 u1 => qS (fun v => mE mc e v) w1) zz = true from h) fun w1 u1 h0 => qS_i (R := fun w1 => R (.Return w1 u1)) h0 fun v h1 => kk v u1 h1
theorem i_mS_exp {mc : MC} {e} {zz} {R : Stmt → Prop} (h : mS mc (.exp e) zz = true) (kk : ∀ x p args cp u1, (mE mc e (.Call (.Name x p) args [] cp)) = true → R (.Expr (.Call (.Name x p) args [] cp) u1)) : R zz :=
  qSExpr_i (show qSExpr (fun w1 u1 => qECall (fun w2 args w3 cp => qEName (fun x p => qL0 (mE mc e (.Call (.Name x p) args [] cp)) w3) w2) w1) zz = true from h) fun w1 u1 h0 => qECall_i (R := fun w1 => R (.Expr w1 u1)) h0 fun w2 args w3 cp h1 => qEName_i (R := fun w2 => R (.Expr (.Call w2 args w3 cp) u1)) h1 fun x p h2 => qL0_i (R := fun w3 => R (.Expr (.Call (.Name x p) args w3 cp) u1)) h2 fun h3 => kk x p args cp u1 h3
theorem i_mS_bad {mc : MC} {zz} {R : Stmt → Prop} (h : mS mc (.bad) zz = true) (kk : ∀ u1 u2 u3, (true) = true → R (.Raise u1 u2 u3)) : R zz :=
  qSRaise_i (show qSRaise (fun u1 u2 u3 => true) zz = true from h) fun u1 u2 u3 h0 => kk u1 u2 u3 h0
end Mine
end
section
open PySem PySem.Calls PySem.W PyProof.Rows
set_option maxRecDepth 100000
namespace Mine
structure Cx where
  prog : Program
  w : World
  B : Heap
  mg : Str → Option Value
  mb : Str → Option Value
  fa : Nat → Addr
  fns : List Str
inductive VR (fa : Nat → Addr) : V → Value → Prop where
  | int (i : Int) (t : Tok) : VR fa (.int i) (.int i t)
  | bool (b : Bool) : VR fa (.bool b) (.bool b)
  | none : VR fa .none .none
  | ref (a : Addr) : VR fa (.ref a) (.ref a)
  | fn (k : Nat) : VR fa (.fn k) (.ref (fa k))
inductive Are (fa : Nat → Addr) : List V → List Value → Prop where
  | nil : Are fa [] []
  | cons {v w vs ws} : VR fa v w → Are fa vs ws → Are fa (v :: vs) (w :: ws)
variable {fa : Nat → Addr}
theorem Are.length {vs ws} (h : Are fa vs ws) : ws.length = vs.length := by
  induction h with
  | nil => rfl
  | cons _ _ ih => simp [ih]
theorem Are.append {vs ws vs' ws'} (h : Are fa vs ws) (h' : Are fa vs' ws') : Are fa (vs ++ vs') (ws ++ ws') := by
  induction h with
  | nil => exact h'
  | cons h1 _ ih => exact .cons h1 ih
theorem Are.get {vs ws} (h : Are fa vs ws) : ∀ {i : Nat} {v : V}, vs[i]? = some v → ∃ w, ws[i]? = some w ∧ VR fa v w := by
  induction h with
  | nil => intro i v e; simp at e
  | @cons v₀ w₀ vs ws h1 _ ih =>
    intro i v e
    cases i with
    | zero => simp at e; subst e; exact ⟨w₀, by simp, h1⟩
    | succ i => simp at e; obtain ⟨w, e', hw⟩ := ih e; exact ⟨w, by simpa using e', hw⟩
theorem Are.drop {vs ws} (h : Are fa vs ws) : ∀ n, Are fa (vs.drop n) (ws.drop n) := by
  induction h with
  | nil => intro n; simpa using Are.nil
  | cons h1 h2 ih =>
    intro n
    cases n with
    | zero => exact .cons h1 h2
    | succ n => simpa using ih n
theorem Are.take {vs ws} (h : Are fa vs ws) : ∀ n, Are fa (vs.take n) (ws.take n) := by
  induction h with
  | nil => intro n; simpa using Are.nil
  | cons h1 h2 ih =>
    intro n
    cases n with
    | zero => simpa using Are.nil
    | succ n => simpa using Are.cons h1 (ih n)
theorem Are.reverse {vs ws} (h : Are fa vs ws) : Are fa vs.reverse ws.reverse := by
  induction h with
  | nil => exact .nil
  | cons h1 _ ih => simpa using ih.append (.cons h1 .nil)
theorem Are.set {vs ws} (h : Are fa vs ws) {v w} (hv : VR fa v w) : ∀ i, Are fa (vs.set i v) (ws.set i w) := by
  induction h with
  | nil => intro i; simpa using Are.nil
  | cons h1 h2 ih =>
    intro i
    cases i with
    | zero => exact .cons hv h2
    | succ i => exact .cons h1 (ih i)
theorem Are.replicate {v w} (hv : VR fa v w) : ∀ n, Are fa (List.replicate n v) (List.replicate n w)
  | 0 => .nil
  | n + 1 => .cons hv (Are.replicate hv n)
theorem Are.ints : ∀ {is : List Int} {ws : List Value}, Are fa (is.map V.int) ws → IntsAre ws is
  | [], _, .nil => .nil
  | _ :: _, _, .cons (.int _ t) r => .cons _ t r.ints
theorem Are.getLast {vs ws} (h : Are fa vs ws) {v : V} (e : vs.getLast? = some v) : ∃ w, ws[ws.length - 1]? = some w ∧ VR fa v w := by
  rw [List.getLast?_eq_getElem?] at e
  rw [h.length]
  exact h.get e
noncomputable def ObR (fa : Nat → Addr) (h : Heap) (a : Addr) : Ob → Prop
  | .lst vs => ∃ items n, Are fa vs items ∧ IsL h a items.toArray n
  | .tup vs => ∃ items, Are fa vs items ∧ h.IsTuple a items.toArray
  | .fro vs => ∃ items, Are fa vs items ∧ h.IsList a items.toArray
theorem ObR.at {h h' : Heap} {a : Addr} {ob : Ob} (x : ObR fa h a ob) (e : ∀ o, h.get? a = some o → h'.get? a = some o) : ObR fa h' a ob := by
  cases ob with
  | lst vs => obtain ⟨items, n, h1, h2⟩ := x; exact ⟨items, n, h1, e _ h2⟩
  | tup vs => obtain ⟨items, h1, h2⟩ := x; exact ⟨items, h1, h2.at e⟩
  | fro vs => obtain ⟨items, h1, h2⟩ := x; exact ⟨items, h1, h2.at e⟩
theorem ObR.seq {h : Heap} {a : Addr} {ob : Ob} (x : ObR fa h a ob) : ∃ o items n, h.get? a = some o ∧ o.data = .seq items n := by
  cases ob with
  | lst vs => obtain ⟨items, n, _, ho⟩ := x; exact ⟨_, _, n, ho, rfl⟩
  | tup vs => obtain ⟨items, _, o, ho, _, n, hd⟩ := x; exact ⟨o, _, n, ho, hd⟩
  | fro vs => obtain ⟨items, _, o, ho, _, n, hd⟩ := x; exact ⟨o, _, n, ho, hd⟩
structure HR (cx : Cx) (H : AH) (h : Heap) : Prop where
  base : ∀ b o, cx.B.get? b = some o → h.get? b = some o
  obs : ∀ a ob, H a = some ob → ObR cx.fa h a ob
  frs : ∀ a ob, H a = some ob → ob.isFro = false → cx.B.get? a = none
structure Ext (X : Nat → Prop) (H : AH) (h : Heap) (H' : AH) (h' : Heap) : Prop where
  keep : ∀ b o, h.get? b = some o → H b = none → ¬ X b → h'.get? b = some o
  new : ∀ b, H' b ≠ none → H b ≠ none ∨ h.get? b = none
  live : ∀ b, h.get? b ≠ none → h'.get? b ≠ none
abbrev NoX : Nat → Prop := fun _ => False
theorem Ext.refl {X : Nat → Prop} {H : AH} {h : Heap} : Ext X H h H h := ⟨fun _ _ e _ _ => e, fun _ e => .inl e, fun _ e => e⟩
theorem Ext.trans {X : Nat → Prop} {H H₁ H₂ : AH} {h h₁ h₂ : Heap} (x : Ext X H h H₁ h₁) (y : Ext X H₁ h₁ H₂ h₂) : Ext X H h H₂ h₂ where
  keep b o e n nx := by
    refine y.keep b o (x.keep b o e n nx) ?_ nx
    cases q : H₁ b with
    | none => rfl
    | some ob => rcases x.new b (by rw [q]; simp) with h1 | h1
                 · exact absurd n h1
                 · rw [h1] at e; cases e
  new b e := by
    rcases y.new b e with h1 | h1
    · exact x.new b h1
    · refine .inr ?_
      cases q : h.get? b with
      | none => rfl
      | some o => exact absurd h1 (x.live b (by rw [q]; simp))
  live b e := y.live b (x.live b e)
theorem Ext.mono {X Y : Nat → Prop} {H H₁ : AH} {h h₁ : Heap} (x : Ext X H h H₁ h₁) (hxy : ∀ b, X b → Y b) : Ext Y H h H₁ h₁ :=
  ⟨fun b o e n ny => x.keep b o e n fun hb => ny (hxy b hb), x.new, x.live⟩
theorem Ext.weak {X : Nat → Prop} {H H₁ : AH} {h h₁ : Heap} (x : Ext NoX H h H₁ h₁) : Ext X H h H₁ h₁ := x.mono fun _ => False.elim
inductive Acc where
  | loc | cell (c : Addr) | hid
structure FI where
  env : Env
  vars : List (Str × Acc)
noncomputable def FI.at (fi : FI) (i : Nat) : Option (Str × Acc) := fi.vars[i]?
noncomputable def OR (fa : Nat → Addr) : Option V → Option Value → Prop
  | none, _ => True
  | some v, some w => VR fa v w
  | some _, none => False
theorem OR.some {v : V} {w : Value} (h : VR fa v w) : OR fa (some v) (some w) := h
structure FOk (cx : Cx) (fi : FI) (mc : MC) : Prop where
  kind : fi.env.scope.kind = .function
  glob : fi.env.globals = mainGlobals
  blt : fi.env.builtins = builtinsNs
  fns : mc.fns = cx.fns
  var : ∀ (i : Nat) x, mc.names[i]? = some (some x) → ∃ a, fi.at i = some (x, a) ∧ (a = Acc.loc ∨ ∃ c, a = Acc.cell c)
  loc : ∀ i x, fi.at i = some (x, Acc.loc) → fi.env.kindOf x = some .local
  cell : ∀ i x c, fi.at i = some (x, Acc.cell c) → (fi.env.kindOf x = some NameKind.cell ∨ fi.env.kindOf x = some .free ∧ (x == ("__classdict__" : Str)) = false) ∧ fi.env.cells.lookup x = some c
  injL : ∀ i j x, fi.at i = some (x, Acc.loc) → fi.at j = some (x, Acc.loc) → i = j
  injC : ∀ i j x y c, fi.at i = some (x, Acc.cell c) → fi.at j = some (y, Acc.cell c) → i = j
  gk : ∀ x, mc.glob x = true → fi.env.kindOf x = some .globalImplicit
  len : mc.names.length = fi.vars.length
  cel : ∀ x, mc.sc.names.lookup x = some NameKind.cell → fi.env.kindOf x = some .cell ∧ ∃ c, fi.env.cells.lookup x = some c
noncomputable def own (fi : FI) (b : Nat) : Prop := b = fi.env.locals ∨ ∃ i x, fi.at i = some (x, Acc.cell b)
noncomputable def own1 (fi : FI) (i : Nat) (b : Nat) : Prop := (∃ x, fi.at i = some (x, Acc.loc)) ∧ b = fi.env.locals ∨ ∃ x, fi.at i = some (x, Acc.cell b)
theorem own1.own {fi : FI} {i b : Nat} (h : own1 fi i b) : own fi b := by
  rcases h with ⟨-, h⟩ | ⟨x, h⟩
  · exact .inl h
  · exact .inr ⟨i, x, h⟩
noncomputable def ownS (fi : FI) (is : List Nat) (b : Nat) : Prop := ∃ i ∈ is, own1 fi i b
theorem ownS.own {fi : FI} {is : List Nat} {b : Nat} (h : ownS fi is b) : own fi b := let ⟨_, _, h⟩ := h; h.own
structure LR (cx : Cx) (fi : FI) (l : Loc) (h : Heap) : Prop where
  ns : ∃ m, h.Ns fi.env.locals m ∧ ∀ i x, fi.at i = some (x, Acc.loc) → OR cx.fa (l.getD i none) (m x)
  cells : ∀ i x c, fi.at i = some (x, Acc.cell c) → ∃ v, h.IsCell c v ∧ OR cx.fa (l.getD i none) v
  lfr : cx.B.get? fi.env.locals = none
  cfr : ∀ i x c, fi.at i = some (x, Acc.cell c) → cx.B.get? c = none
  len : l.length = fi.vars.length
theorem LR.notIn {cx : Cx} {fi : FI} {l : Loc} {h : Heap} {H : AH} (x : LR cx fi l h) (R : HR cx H h) {b : Nat} (hb : own fi b) : H b = none := by
  cases q : H b with
  | none => rfl
  | some ob =>
    exfalso
    obtain ⟨o, items, n, ho, hd⟩ := (R.obs b ob q).seq
    rcases hb with rfl | ⟨i, y, hi⟩
    · obtain ⟨m, ⟨o', es, ep, ho', hd', _⟩, _⟩ := x.ns
      rw [ho] at ho'; cases ho'; rw [hd] at hd'; cases hd'
    · obtain ⟨v, ⟨o', ho', hd'⟩, _⟩ := x.cells i y b hi
      rw [ho] at ho'; cases ho'; rw [hd] at hd'; cases hd'
theorem LR.ext {cx : Cx} {fi : FI} {l : Loc} {h h' : Heap} {H H' : AH} (x : LR cx fi l h) (R : HR cx H h) (e : Ext NoX H h H' h') : LR cx fi l h' where
  ns := by
    obtain ⟨m, hn, hm⟩ := x.ns
    exact ⟨m, hn.at' fun o ho => e.keep _ o ho (x.notIn R (.inl rfl)) id, hm⟩
  cells := fun i y c hi => by
    obtain ⟨v, ⟨o, ho, hd⟩, hv⟩ := x.cells i y c hi
    exact ⟨v, ⟨o, e.keep _ o ho (x.notIn R (.inr ⟨i, y, hi⟩)) id, hd⟩, hv⟩
  lfr := x.lfr
  cfr := x.cfr
  len := x.len
noncomputable def Pst {α β : Type} (r : α → β → Prop) (cx : Cx) (H : AH) (s : Shared) (Q : α → AH → Prop) (b : β) (s' : Shared) : Prop :=
  ∃ a H' h' tk, s' = { s with heap := h', toks := tk } ∧ r a b ∧ HR cx H' h' ∧ Ext NoX H s.heap H' h' ∧ Q a H'
theorem Pst.intro {α β : Type} {r : α → β → Prop} {cx : Cx} {H : AH} {s : Shared} {Q : α → AH → Prop} {a : α} {b : β} {tk : Nat} (hr : r a b) (R : HR cx H s.heap) (q : Q a H) : Pst r cx H s Q b { s with toks := tk } :=
  ⟨a, H, s.heap, tk, rfl, hr, R, Ext.refl, q⟩
theorem Pst.up {α β : Type} {r : α → β → Prop} {cx : Cx} {H H₁ : AH} {s : Shared} {h₁ : Heap} {tk : Nat} {Q : α → AH → Prop} {b : β} {s' : Shared} (e : Ext NoX H s.heap H₁ h₁)
    (p : Pst r cx H₁ { s with heap := h₁, toks := tk } Q b s') : Pst r cx H s Q b s' := by
  obtain ⟨a, H', h', tk', rfl, hr, R, e', q⟩ := p
  exact ⟨a, H', h', tk', rfl, hr, R, e.trans e', q⟩
section
variable {cx : Cx} {A : Around} {Er : Value → Shared → Prop} {s : Shared} {H : AH} {M : Model}
theorem wp_seq {α β γ δ : Type} {r : α → β → Prop} {r' : γ → δ → Prop} {t : Sem β} {f : β → Sem δ} {Q₁ : α → AH → Prop} {Q : γ → AH → Prop}
    (h₁ : wpAny M A t (Pst r cx H s Q₁) Er s)
    (h₂ : ∀ a b H' h' tk, r a b → HR cx H' h' → Ext NoX H s.heap H' h' → Q₁ a H' → wpAny M A (f b) (Pst r' cx H' { s with heap := h', toks := tk } Q) Er { s with heap := h', toks := tk }) :
    wpAny M A t (fun b s' => wpAny M A (f b) (Pst r' cx H s Q) Er s') Er s := by
  refine wpAny_mono h₁ (fun b s' p => ?_) fun _ _ e => e
  obtain ⟨a, H', h', tk, rfl, hr, R, e, q⟩ := p
  exact wpAny_mono (h₂ a b H' h' tk hr R e q) (fun _ _ p => p.up e) fun _ _ e => e
theorem wp_then {α β : Type} {r : α → β → Prop} {t : Sem β} {Q₁ : α → AH → Prop} {P : β → Shared → Prop}
    (h₁ : wpAny M A t (Pst r cx H s Q₁) Er s)
    (h₂ : ∀ a b H' h' tk, r a b → HR cx H' h' → Ext NoX H s.heap H' h' → Q₁ a H' → P b { s with heap := h', toks := tk }) :
    wpAny M A t P Er s := by
  refine wpAny_mono h₁ (fun b s' p => ?_) fun _ _ e => e
  obtain ⟨a, H', h', tk, rfl, hr, R, e, q⟩ := p
  exact h₂ a b H' h' tk hr R e q
end
theorem HR.push {cx : Cx} {H : AH} {h : Heap} (R : HR cx H h) {o : Obj} {ob : Ob} (hob : ObR cx.fa (h.push o) h.objs.size ob) :
    H h.objs.size = none ∧ HR cx (H.set h.objs.size ob) (h.push o) ∧ Ext NoX H h (H.set h.objs.size ob) (h.push o) := by
  have nb : ∀ {b : Nat} {x : Obj}, h.get? b = some x → b ≠ h.objs.size := fun e q => Nat.lt_irrefl _ (q ▸ Heap.lt_size e)
  have hn : H h.objs.size = none := by
    cases q : H h.objs.size with
    | none => rfl
    | some ob' => obtain ⟨o', _, _, ho', _⟩ := (R.obs _ _ q).seq; exact absurd rfl (nb ho')
  have up : ∀ b x, h.get? b = some x → (h.push o).get? b = some x := fun b x e => Heap.get?_push_of_some _ e
  refine ⟨hn, ⟨fun b x e => up b x (R.base b x e), fun a ob' e => ?_, fun a ob' e hf => ?_⟩, ⟨fun b x e _ _ => up b x e, fun b e => ?_, fun b e => ?_⟩⟩
  · by_cases q : a = h.objs.size
    · subst q; rw [AH.set_self] at e; cases e; exact hob
    · rw [AH.set_ne q] at e; exact (R.obs a ob' e).at fun x hx => up a x hx
  · by_cases q : a = h.objs.size
    · subst q
      cases z : cx.B.get? h.objs.size with
      | none => rfl
      | some x => exact absurd rfl (nb (R.base _ _ z))
    · rw [AH.set_ne q] at e; exact R.frs a ob' e hf
  · by_cases q : b = h.objs.size
    · subst q
      refine .inr ?_
      cases z : h.get? h.objs.size with
      | none => rfl
      | some x => exact absurd rfl (nb z)
    · rw [AH.set_ne q] at e; exact .inl e
  · cases z : h.get? b with
    | none => exact absurd z e
    | some x => rw [up b x z]; simp
theorem HR.grow {cx : Cx} {H : AH} {h h' : Heap} (R : HR cx H h) (k : ∀ b o, h.get? b = some o → h'.get? b = some o) : HR cx H h' ∧ Ext NoX H h H h' := by
  refine ⟨⟨fun b o e => k b o (R.base b o e), fun a ob e => (R.obs a ob e).at fun o => k a o, R.frs⟩, ⟨fun b o e _ _ => k b o e, fun b e => .inl e, fun b e => ?_⟩⟩
  cases z : h.get? b with
  | none => exact absurd z e
  | some x => rw [k b x z]; simp
theorem HR.turn {cx : Cx} {H : AH} {h h' : Heap} {a : Nat} {ob ob' : Ob} (R : HR cx H h) (ha : H a = some ob) (hf : ob.isFro = false) (hs : Heap.SameBut a h h') (hob : ObR cx.fa h' a ob') :
    HR cx (H.set a ob') h' ∧ Ext NoX H h (H.set a ob') h' := by
  refine ⟨⟨fun b o e => ?_, fun b ob₁ e => ?_, fun b ob₁ e hf₁ => ?_⟩, ⟨fun b o e n _ => ?_, fun b e => ?_, fun b e => ?_⟩⟩
  · have : b ≠ a := fun q => by rw [q, R.frs a ob ha hf] at e; cases e
    exact (hs.2 b this).trans (R.base b o e)
  · by_cases q : b = a
    · subst q; rw [AH.set_self] at e; cases e; exact hob
    · rw [AH.set_ne q] at e; exact (R.obs b ob₁ e).at fun o ho => (hs.2 b q).trans ho
  · by_cases q : b = a
    · subst q; exact R.frs b ob ha hf
    · rw [AH.set_ne q] at e; exact R.frs b ob₁ e hf₁
  · have : b ≠ a := fun q => by rw [q, ha] at n; cases n
    exact (hs.2 b this).trans e
  · by_cases q : b = a
    · subst q; exact .inl (by rw [ha]; simp)
    · rw [AH.set_ne q] at e; exact .inl e
  · by_cases q : b = a
    · subst q
      obtain ⟨o, _, _, ho, _⟩ := hob.seq
      rw [ho]; simp
    · rw [hs.2 b q]; exact e
end Mine
end
section
open PySem PySem.Calls PySem.W PyProof.Rows
set_option maxRecDepth 100000
namespace Mine
structure AOk (n : Nat) (A : Around) : Prop where
  hh : A.handled = none
  depth : A.depth + n < recursionLimit
  units : A.units + 8 * n + 200 < cLine
theorem lim_le {n : Nat} (h : n ≤ lim) : n ≤ sizeLine := by unfold lim at h; rw [sizeLine_eq]; exact o10 h
section
variable {cx : Cx} {A : Around} {Er : Value → Shared → Prop} {s : Shared} {H : AH}
theorem Pst.newList {Q : PQ} {vs : List V} {items : List Value} {h : Heap} {tk : Nat} (R : HR cx H s.heap) (k : ∀ b o, s.heap.get? b = some o → h.get? b = some o) (hi : Are cx.fa vs items)
    (q : ∀ c, H c = none → Q (.ref c) (H.set c (.lst vs))) :
    Pst (VR cx.fa) cx H s Q (.ref h.objs.size) { s with heap := h.push { cls := .type "list", data := .seq items.toArray }, toks := tk } := by
  obtain ⟨R₁, e₁⟩ := R.grow k
  obtain ⟨hn, R₂, e₂⟩ := R₁.push (o := { cls := .type "list", data := .seq items.toArray }) (ob := .lst vs) ⟨items, 0, hi, Heap.get?_push_size _ rfl⟩
  exact ⟨.ref _, _, _, tk, rfl, .ref _, R₂, e₁.trans e₂, q _ hn⟩
theorem Pst.newTup {Q : PQ} {vs : List V} {items : List Value} {tk : Nat} (R : HR cx H s.heap) (hi : Are cx.fa vs items)
    (q : ∀ c, H c = none → Q (.ref c) (H.set c (.tup vs))) :
    Pst (VR cx.fa) cx H s Q (.ref s.heap.objs.size) { s with heap := s.heap.push { cls := .type "tuple", data := .seq items.toArray }, toks := tk } := by
  obtain ⟨hn, R₂, e₂⟩ := R.push (o := { cls := .type "tuple", data := .seq items.toArray }) (ob := .tup vs) ⟨items, hi, _, Heap.get?_push_size _ rfl, rfl, _, rfl⟩
  exact ⟨.ref _, _, _, tk, rfl, .ref _, R₂, e₂, q _ hn⟩
theorem p_bin {op : Op} {o : Operator} (hop : opM op o = true) {x y : V} {v w : Value} {Q : PQ} (R : HR cx H s.heap) (hv : VR cx.fa x v) (hw : VR cx.fa y w) (h : binS op x y H Q) :
    wpAny (model cx.prog cx.w) A (binaryOp o v w) (Pst (VR cx.fa) cx H s Q) Er s := by
  cases hv with
  | int i t =>
    cases hw with
    | int j u =>
      have hI : opOk op i j ∧ Q (.int (opV op i j)) H := by cases op <;> exact h
      obtain ⟨ok, q⟩ := hI
      have fin : ∀ {k : Int}, k = opV op i j → Pst (VR cx.fa) cx H s Q (.int k s.toks) { s with toks := s.toks + 1 } := fun e => e ▸ Pst.intro (.int _ _) R q
      cases op <;> cases o <;> first | (cases hop; done) | skip
      · exact add_int (fin rfl)
      · exact sub_int (fin rfl)
      · exact mul_int (fin rfl) (.of_left (intBits_le ok.1))
      · refine floordiv_int (by have := ok.1; exact o7 this) (fin (Int.fdiv_eq_ediv_of_nonneg _ (Int.le_of_lt ok.1))) (.inl (PyProof.noPylong_of_log2 ?_))
        have h1 : j.natAbs < 2 ^ 64 := by have := ok.1; have := ok.2; exact o11 (by assumption) this
        have h2 := (Nat.log2_lt (k := 64) (show j.natAbs ≠ 0 by have := ok.1; exact o12 this)).mpr h1
        exact o13 h2
      · exact mod_int' (by have : 0 < j := ok; exact o7 this) (fin (Int.fmod_eq_emod_of_nonneg _ (Int.le_of_lt ok)))
      · exact lshift_int_small ok.1 (by have := ok.2.1; exact o14 this) ok.2.2 (fin rfl)
      · exact rshift_int ok (fin (Int.fdiv_eq_ediv_of_nonneg _ (Int.le_of_lt (Int.pow_pos (by decide)))))
      · exact and_int (fin rfl)
      · exact or_int (fin rfl)
      · exact pow_int_small ok.1 (by have := ok.2.1; exact o14 this) ok.2.2 (fin rfl)
    | _ => exact h.elim
  | ref a =>
    cases hw with
    | ref b =>
      cases op with
      | add =>
        obtain ⟨-, xs, ys, ha, hb, hsz, q⟩ := h
        obtain ⟨ia, n, h1, ho⟩ := R.obs a _ ha
        obtain ⟨ib, n2, h2, ho2⟩ := R.obs b _ hb
        obtain rfl : o = .Add := by cases o <;> first | rfl | cases hop
        have hz : ia.toArray.size + ib.toArray.size ≤ sizeLine := by simp only [List.size_toArray, h1.length, h2.length]; exact lim_le hsz
        refine concat_meets (S := _) ⟨_, ho, rfl⟩ ⟨_, ho2, rfl⟩ noFill_list_add seq_list_add F.slot_list_add F.entry_list_add (F.args_list_add_2 _ _) (list_addW a b ia.toArray ib.toArray n n2 none none #[] #[] hz) ⟨ho, ho2, ?_⟩
        have e : (ia.toArray ++ ib.toArray) = (ia ++ ib).toArray := by simp
        rw [e]
        exact Pst.newList (tk := s.toks) R (fun _ _ e => e) (h1.append h2) q
      | _ => cases h.1
    | int n u =>
      cases op with
      | mul =>
        obtain ⟨-, x₀, ha, hlo', hsz, q⟩ := h
        obtain ⟨ia, k, h1, ho⟩ := R.obs a _ ha
        obtain rfl : o = .Mult := by cases o <;> first | rfl | cases hop
        cases h1 with
        | @cons _ w₀ _ _ hx hnil =>
          cases hnil
          have hn : n.toNat ≤ 2 ^ 20 := by unfold lim at hsz; exact o15 hsz
          have hn2 : n ≤ 2 ^ 20 := by unfold lim at hsz; exact o16 hsz
          have hlo : -(2 ^ 63 : Int) ≤ n := by unfold lim at hlo'; exact o17 hlo'
          · refine wpAny_binaryOp_repeat_ref (T := "list") (U := "int") (by decide) ⟨_, ho, rfl⟩ (fun s' => typeIs_int s' n u) noFill_list_mul F.fills_int_mul F.slot_int_rmul repeat_list F.slot_int_index.lookup
              (call_meets F.slot_int_rmul (typeIs_int s n u) F.entry_int_rmul (F.args_int_rmul_2 _ _) (lm_int_rmul_list_any n u a [w₀].toArray k none #[])
                ⟨ho, rfl, ⟨_, ho, rfl⟩, call_meets F.slot_list_mul ⟨_, ho, rfl⟩ F.entry_list_mul (F.args_list_mul_2 _ _)
                  (lm_list_mul_any a [w₀].toArray k none #[] n u (by simp [Builtin.List.listFitsIndex]; exact o18 hn2 hlo) (by simp; exact o19 hn2) (by simp [Builtin.List.listTooLong, sizeLine]; exact o20 hn2))
                  ⟨ho, ?_⟩⟩)
            rw [listMul_foldl_if]
            have e : (List.replicate n.toNat [w₀]).flatten = List.replicate n.toNat w₀ := by
              generalize n.toNat = k
              induction k with
              | zero => rfl
              | succ k ih => simp [List.replicate_succ, ih]
            rw [e]
            exact Pst.newList (tk := s.toks) R (fun _ _ e => e) (Are.replicate hx _) q
      | _ => cases h.1
    | _ => exact h.elim
  | _ => exact h.elim
end
end Mine
end
section
open PySem PySem.Calls PySem.W PyProof.Rows PySem.Spec
set_option maxRecDepth 100000
namespace Mine
section
variable {cx : Cx} {A : Around} {Er : Value → Shared → Prop} {s : Shared} {H : AH}
theorem HR.ints (R : HR cx H s.heap) {a : Nat} {is : List Int} (h : IL H a is) : ∃ ws n, IsL s.heap a ws.toArray n ∧ IntsAre ws is := by
  obtain ⟨ws, n, h1, h2⟩ := R.obs a _ h
  exact ⟨ws, n, h2, h1.ints⟩
theorem il_reads (R : HR cx H s.heap) {a : Nat} {is : List Int} (h : IL H a is) : ∃ as, Reads s.heap (.ref a) (.list (is.map PyData.int)) as := by
  obtain ⟨ws, n, h1, h2⟩ := R.ints h
  exact ⟨_, reads_newData h1.isList (ints_carried h2)⟩
theorem ils_reads (R : HR cx H s.heap) {rs : List Nat} {iss : List (List Int)} (h : ILs H rs iss) : ∀ {ws : List Value}, Are cx.fa (rs.map V.ref) ws →
    ∃ as, ReadsAll s.heap ws (iss.map fun is => PyData.list (is.map PyData.int)) as := by
  induction h with
  | nil => intro ws hw; cases hw; exact ⟨_, .nil⟩
  | cons h1 _ ih =>
    intro ws hw
    cases hw with
    | cons hv hr =>
      cases hv
      obtain ⟨as, ha⟩ := il_reads R h1
      obtain ⟨bs, hb⟩ := ih hr
      exact ⟨_, .cons ha hb⟩
theorem ll_reads (R : HR cx H s.heap) {a : Nat} {iss : List (List Int)} (h : LL H a iss) : ∃ as, Reads s.heap (.ref a) (.list (iss.map fun is => PyData.list (is.map PyData.int))) as := by
  obtain ⟨rs, h1, h2⟩ := h
  obtain ⟨ws, n, h3, h4⟩ := R.obs a _ h1
  obtain ⟨as, h5⟩ := ils_reads R h2 h3
  exact ⟨_, reads_list_at h4 rfl rfl h5⟩
theorem ll_canLay : ∀ iss : List (List Int), PyData.canLayAll0 (iss.map fun is => PyData.list (is.map PyData.int)) = true
  | [] => rfl
  | is :: r => by simp [PyData.canLayAll0, PyData.canLay0, il_canLay, ll_canLay r]
theorem ll_depth : ∀ iss : List (List Int), PyData.depthAll (iss.map fun is => PyData.list (is.map PyData.int)) ≤ 1
  | [] => by simp [PyData.depthAll]
  | is :: r => by
    have := ll_depth r
    simp only [List.map_cons, PyData.depthAll, PyData.depth, il_depth]
    exact o21 this
theorem ll_shaped (iss : List (List Int)) : SeqAt.shaped (.list (iss.map fun is => PyData.list (is.map PyData.int))) = true := by
  have := ll_depth iss
  simp only [SeqAt.shaped, PyData.canLay0, ll_canLay, PyData.depth, Bool.and_eq_true, true_and]
  exact decide_eq_true (by exact o22 this)
theorem ll_eqv : ∀ iss jss : List (List Int), PyData.eqvAll (iss.map fun is => PyData.list (is.map PyData.int)) (jss.map fun is => PyData.list (is.map PyData.int)) = decide (iss = jss)
  | [], [] => by simp [PyData.eqvAll]
  | [], _ :: _ => by simp [PyData.eqvAll]
  | _ :: _, [] => by simp [PyData.eqvAll]
  | a :: r, b :: t => by
    simp only [List.map_cons, PyData.eqvAll, PyData.eqv, il_eqv, ll_eqv r t]
    by_cases h : a = b <;> by_cases h' : r = t <;> simp [h, h']
theorem p_cmp {op : Cp} {o : CmpOp} (hop : cpM op o = true) {x y : V} {v w : Value} {Q : Bool → Prop} {P : Value → Shared → Prop} (R : HR cx H s.heap) (hu : A.units + 64 < cLine)
    (hv : VR cx.fa x v) (hw : VR cx.fa y w) (h : cmpS op x y H Q) (k : ∀ b, Q b → P (.bool b) s) :
    wpAny (model cx.prog cx.w) A (compareOp o v w) P Er s := by
  cases hv with
  | int i t =>
    cases hw with
    | int j u =>
      cases op <;> cases o <;> first | (cases hop; done) | skip
      · exact lt_int (k _ h)
      · exact le_int (k _ h)
      · exact gt_int (k _ h)
      · exact ge_int (k _ h)
      · exact eq_int (k _ h)
      · exact ne_int (k _ (by have h' : Q (!decide (i = j)) := h; simpa [bne, BEq.beq] using h'))
      · exact h.elim
    | ref b =>
      cases op with
      | isin =>
        obtain rfl : o = .In := by cases o <;> first | rfl | cases hop
        obtain ⟨-, js, hj, q⟩ := h
        obtain ⟨ws, n, h1, h2⟩ := R.ints hj
        refine in_list_ints h1.isList h2 (k _ ?_)
        have e : (js.any fun x => x == i) = decide (i ∈ js) := by
          rw [Bool.eq_iff_iff, List.any_eq_true, decide_eq_true_eq]
          exact ⟨fun ⟨y, hy, e⟩ => by rw [beq_iff_eq] at e; exact e ▸ hy, fun hy => ⟨i, hy, by simp⟩⟩
        rw [e]; exact q
      | _ => cases h.1
    | _ => exact h.elim
  | ref a =>
    cases hw with
    | ref b =>
      cases op with
      | eq =>
        obtain rfl : o = .Eq := by cases o <;> first | rfl | cases hop
        rcases h with ⟨is, js, hi, hj, q⟩ | ⟨iss, jss, hi, hj, q⟩
        · obtain ⟨ws, n, h1, h2⟩ := R.ints hi
          obtain ⟨ws', n', h1', h2'⟩ := R.ints hj
          refine eq_dataH (reads_newData h1.isList (ints_carried h2)) (reads_newData h1'.isList (ints_carried h2')) (il_shaped _) (il_shaped _) hu (k _ ?_)
          simp only [PyData.eqv, il_eqv]; exact q
        · obtain ⟨as, ra⟩ := ll_reads R hi
          obtain ⟨bs, rb⟩ := ll_reads R hj
          refine eq_dataH ra rb (ll_shaped _) (ll_shaped _) hu (k _ ?_)
          simp only [PyData.eqv, ll_eqv]; exact q
      | ne =>
        obtain rfl : o = .NotEq := by cases o <;> first | rfl | cases hop
        rcases h with ⟨is, js, hi, hj, q⟩ | ⟨iss, jss, hi, hj, q⟩
        · obtain ⟨ws, n, h1, h2⟩ := R.ints hi
          obtain ⟨ws', n', h1', h2'⟩ := R.ints hj
          refine ne_dataH (reads_newData h1.isList (ints_carried h2)) (reads_newData h1'.isList (ints_carried h2')) (il_shaped _) (il_shaped _) hu (k _ ?_)
          simp only [PyData.eqv, il_eqv]; exact q
        · obtain ⟨as, ra⟩ := ll_reads R hi
          obtain ⟨bs, rb⟩ := ll_reads R hj
          refine ne_dataH ra rb (ll_shaped _) (ll_shaped _) hu (k _ ?_)
          simp only [PyData.eqv, ll_eqv]; exact q
      | _ => exact h.elim
    | _ => exact h.elim
  | _ => cases hw <;> exact h.elim
theorem p_item {r : Nat} {k : Int} {t : Tok} {xs : List V} {v : V} {Q : PQ} {value slice : Expr} (R : HR cx H s.heap) (hr : H r = some (.lst xs)) (hsz : xs.length ≤ lim)
    (hk : (0 ≤ k ∧ xs[k.toNat]? = some v) ∨ (k = -1 ∧ xs.getLast? = some v)) (q : Q v H)
    (hs : subscripted slice false (.ref r) (.int k t) = operate [.ref r, .int k t] (getItem (.ref r) (.int k t))) :
    wpAny (model cx.prog cx.w) A (subscriptTail value slice (.ref r) (.int k t)) (Pst (VR cx.fa) cx H s Q) Er s := by
  obtain ⟨ws, n, h1, h2⟩ := R.obs r _ hr
  have hl := h1.length
  unfold lim at hsz
  rcases hk with ⟨h0, hx⟩ | ⟨rfl, hx⟩
  · obtain ⟨w, hw, hvw⟩ := h1.get hx
    have hlt : k.toNat < xs.length := (List.getElem?_eq_some_iff.mp hx).1
    refine tail_any h2.isList.typeIs slot_list_getitem.lookup (wpAny_getItem_list h2.isList h0 (by exact o23 hsz hlt) (by simpa using hw) ?_) hs
    exact Pst.intro (tk := s.toks) hvw R q
  · obtain ⟨w, hw, hvw⟩ := h1.getLast hx
    have hpos : 0 < ws.length := by
      have := (List.getElem?_eq_some_iff.mp hw).1
      exact o24 this
    refine tail_any h2.isList.typeIs slot_list_getitem.lookup (wpAny_getItem_list_neg (x := w) h2.isList (by decide) (by simp only [List.size_toArray]; exact o25 hpos) (by decide) ?_ ?_) hs
    · show ws.toArray[(-1 + (ws.toArray.size : Int)).toNat]? = some w
      have e : (-1 + (ws.toArray.size : Int)).toNat = ws.length - 1 := by simp only [List.size_toArray]; exact o26
      rw [e]; simpa using hw
    · exact Pst.intro (tk := s.toks) hvw R q
theorem p_cut {x : V} {v vl vu vk : Value} {lo hi : Option Int} {Q : PQ} {value slice : Expr} {ops : List Value} (R : HR cx H s.heap) (hv : VR cx.fa x v) (pl : IsPart vl lo) (pu : IsPart vu hi) (hk : vk = .none)
    (h : cutS x lo hi H Q) (hs : ∀ a, subscripted slice false (.ref a) (.ref s.heap.objs.size) = operate (ops ++ [.ref a]) (getItem (.ref a) (.ref s.heap.objs.size))) :
    wpAny (model cx.prog cx.w) A (subscriptTail value slice v (.ref s.heap.objs.size)) (Pst (VR cx.fa) cx H s Q) Er { s with heap := s.heap.push { cls := .type "slice", data := .fields #[vl, vu, vk] } } := by
  subst hk
  cases hv with
  | ref a =>
    obtain ⟨xs, ha, hsz, q⟩ := h
    obtain ⟨ws, h1, h2⟩ : ∃ ws, Are cx.fa xs ws ∧ s.heap.IsList a ws.toArray := by
      rcases ha with ha | ha
      · obtain ⟨ws, n, h1, h2⟩ := R.obs a _ ha; exact ⟨ws, h1, h2.isList⟩
      · exact R.obs a _ ha
    have hl := h1.length
    have h3 : (s.heap.push { cls := .type "slice", data := .fields #[vl, vu, .none] }).IsList a ws.toArray := h2.at fun o e => Heap.get?_push_of_some _ e
    refine tail_any (s := { s with heap := s.heap.push { cls := .type "slice", data := .fields #[vl, vu, .none] } }) h3.typeIs slot_list_getitem.lookup
      (wpAny_getItem_list_slice h3 (Heap.IsSliceOf.new ..) pl pu .none (by simp) ?_ (by simp only [List.size_toArray, hl]; exact lim_le hsz)) (hs a)
    rw [slicePick_plain]
    simp only [List.size_toArray, hl]
    exact Pst.newList (h := s.heap.push { cls := .type "slice", data := .fields #[vl, vu, .none] }) (tk := s.toks) R (fun _ _ e => Heap.get?_push_of_some _ e) ((h1.drop _).take _) q
  | _ => exact h.elim
theorem p_rev {r : Nat} {xs : List V} {vk : Value} {Q : PQ} {value slice : Expr} {ops : List Value} (R : HR cx H s.heap) (ha : H r = some (.lst xs)) (hsz : xs.length ≤ lim) (pk : IsPart vk (some (-1)))
    (q : ∀ c, H c = none → Q (.ref c) (H.set c (.lst xs.reverse))) (hs : subscripted slice false (.ref r) (.ref s.heap.objs.size) = operate ops (getItem (.ref r) (.ref s.heap.objs.size))) :
    wpAny (model cx.prog cx.w) A (subscriptTail value slice (.ref r) (.ref s.heap.objs.size)) (Pst (VR cx.fa) cx H s Q) Er { s with heap := s.heap.push { cls := .type "slice", data := .fields #[.none, .none, vk] } } := by
  obtain ⟨ws, n, h1, h2⟩ := R.obs r _ ha
  have hl := h1.length
  have h3 := h2.push { cls := .type "slice", data := .fields #[.none, .none, vk] }
  refine tail_any (s := { s with heap := s.heap.push { cls := .type "slice", data := .fields #[.none, .none, vk] } }) h3.isList.typeIs slot_list_getitem.lookup
    (wpAny_getItem_list_slice h3.isList (Heap.IsSliceOf.new ..) .none .none pk (by simp) ?_ (by simp only [List.size_toArray, hl]; exact lim_le hsz)) hs
  rw [rev_pick]
  exact Pst.newList (h := s.heap.push { cls := .type "slice", data := .fields #[.none, .none, vk] }) (tk := s.toks) R (fun _ _ e => Heap.get?_push_of_some _ e) h1.reverse q
theorem HR.turnL {h' : Heap} {a : Nat} {xs ys : List V} {ws : List Value} {n : Nat} (R : HR cx H s.heap) (ha : H a = some (.lst xs)) (hs : Heap.SameBut a s.heap h') (hw : Are cx.fa ys ws) (hl : IsL h' a ws.toArray n) :
    HR cx (H.set a (.lst ys)) h' ∧ Ext NoX H s.heap (H.set a (.lst ys)) h' := R.turn ha rfl hs (ob' := .lst ys) ⟨ws, n, hw, hl⟩
theorem p_append {r : Nat} {xs : List V} {y : V} {w : Value} {P : Value → Shared → Prop} (R : HR cx H s.heap) (hr : H r = some (.lst xs)) (hsz : xs.length ≤ lim) (hw : VR cx.fa y w)
    (k : ∀ h', HR cx (H.set r (.lst (xs ++ [y]))) h' → Ext NoX H s.heap (H.set r (.lst (xs ++ [y]))) h' → P .none { s with heap := h' }) :
    wpAny (model cx.prog cx.w) A (call (.builtin "list.append") [.ref r, w]) P Er s := by
  obtain ⟨ws, n, h1, h2⟩ := R.obs r _ hr
  refine append_at (hsz := by simp only [List.size_toArray, h1.length]; exact lim_le hsz) h2 fun h' hs h3 => ?_
  have e : ws.toArray.push w = (ws ++ [w]).toArray := by simp
  rw [e] at h3
  obtain ⟨R', e'⟩ := R.turnL hr hs (h1.append (.cons hw .nil)) h3
  exact k h' R' e'
end
end Mine
end
section
open PySem PySem.Calls PySem.W PyProof.Rows PySem.Spec
set_option maxRecDepth 100000
namespace Mine
section
variable {cx : Cx} {A : Around} {Er : Value → Shared → Prop} {s : Shared} {H : AH}
theorem p_setItem {r : Nat} {k : Int} {t : Tok} {xs : List V} {y : V} {w : Value} {P : Unit → Shared → Prop} (R : HR cx H s.heap) (hr : H r = some (.lst xs)) (hsz : xs.length ≤ lim) (h0 : 0 ≤ k) (hn : k < xs.length) (hw : VR cx.fa y w)
    (q : ∀ h', HR cx (H.set r (.lst (xs.set k.toNat y))) h' → Ext NoX H s.heap (H.set r (.lst (xs.set k.toNat y))) h' → P () { s with heap := h' }) :
    wpAny (model cx.prog cx.w) A (setItem (.ref r) (.int k t) w) P Er s := by
  obtain ⟨ws, n, h1, h2⟩ := R.obs r _ hr
  have hl := h1.length
  have hfit : k < 2 ^ 63 := by unfold lim at hsz; exact o27 hsz hn
  have hT := h2.isList.typeIs (s := s)
  unfold setItem
  with_reducible refine wpAny_holding ?_
  refine wpAny_bind (wpAny_sequenceKey hT (by decide) ?_)
  refine wpAny_bind (wpAny_callSpecial?_slot (name := Str.ofString "__setitem__") hT slot_list_setitem (wpAny_call_entry slot_list_setitem hT entry_list_setitem ?_ (args_list_setitem _ _ _)))
  show wpAny _ _ (Builtin.List.listSubscript? (.int k t) >>= _) _ _ s
  refine wpAny_bind (wpAny_listSubscript_int (fitsIndex_of h0 hfit) ?_)
  clear hfit hsz
  obtain ⟨j, rfl⟩ := Int.eq_ofNat_of_zero_le h0
  have hj : j < ws.toArray.size := by simp only [List.size_toArray]; exact o28 hl hn
  have fin : ∀ Q' : Unit → Shared → Prop, (∀ h', HR cx (H.set r (.lst (xs.set j y))) h' → Ext NoX H s.heap (H.set r (.lst (xs.set j y))) h' → Q' () { s with heap := h' }) →
      Q' () { s with heap := s.heap.update r (Obj.mapSeq (·.setIfInBounds j w)) } := fun Q' hq => by
    have h3 := h2.update (·.setIfInBounds j w)
    have e : ws.toArray.setIfInBounds j w = (ws.set j w).toArray := by simp
    rw [e] at h3
    obtain ⟨R', e'⟩ := R.turnL hr (Heap.SameBut.update ..) (h1.set hw j) h3
    exact hq _ R' e'
  show wpAny _ _ ((seqItemAt r j >>= fun z => pure (z.map (j, ·))) >>= _) _ _ s
  refine wpAny_bind (wpAny_bind (wpAny_seqItemAt h2 rfl (wpAny_pure ?_)))
  rw [Array.getElem?_eq_getElem hj]
  show wpAny _ _ (setSeqItemAt r j w >>= _) _ _ s
  refine wpAny_bind (wpAny_setSeqItemAt h2 rfl ?_)
  first
    | exact wpAny_pure ⟨.none, rfl, wpAny_pure (fin (fun u s' => P u s') q)⟩
    | exact wpAny_bind (wpAny_pure (wpAny_pure ⟨.none, rfl, wpAny_pure (fin (fun u s' => P u s') q)⟩))
theorem p_reverse {r : Nat} {pos : Pos} {xs : List V} {P : Value → Shared → Prop} (R : HR cx H s.heap) (hr : H r = some (.lst xs)) (hsz : xs.length ≤ lim)
    (k : ∀ h', HR cx (H.set r (.lst xs.reverse)) h' → Ext NoX H s.heap (H.set r (.lst xs.reverse)) h' → P .none { s with heap := h' }) :
    wpAny (model cx.prog cx.w) A (callWith pos (.builtin "list.reverse") [.ref r] [] []) P Er s := by
  obtain ⟨ws, n, h1, h2⟩ := R.obs r _ hr
  refine PySem.P.reverse_list (hsz := by simp only [List.size_toArray, h1.length]; exact lim_le hsz) h2 ?_
  have h3 := h2.update (fun x => x.reverse)
  have e : ws.toArray.reverse = ws.reverse.toArray := by simp
  rw [e] at h3
  obtain ⟨R', e'⟩ := R.turnL hr (Heap.SameBut.update ..) h1.reverse h3
  exact k _ R' e'
theorem p_len {r : Nat} {xs : List V} {Q : PQ} (R : HR cx H s.heap) (hr : H r = some (.lst xs)) (hsz : xs.length ≤ lim) (q : Q (.int xs.length) H) :
    wpAny (model cx.prog cx.w) A (call (.builtin "len") [.ref r]) (Pst (VR cx.fa) cx H s Q) Er s := by
  obtain ⟨ws, n, h1, h2⟩ := R.obs r _ hr
  have hl := h1.length
  unfold lim at hsz
  refine PySem.Calls.call_len_list h2.isList (by simp only [List.size_toArray]; exact o29 hsz hl) ?_
  simp only [List.size_toArray, hl]
  exact Pst.intro (tk := s.toks + 1 + 1) (.int _ _) R q
theorem p_abs {i : Int} {t : Tok} {Q : PQ} (R : HR cx H s.heap) (q : Q (.int (if i < 0 then -i else i)) H) :
    wpAny (model cx.prog cx.w) A (call (.builtin "abs") [.int i t]) (Pst (VR cx.fa) cx H s Q) Er s :=
  call_abs_int fun _ tk => Pst.intro (tk := tk) (.int _ _) R q
theorem p_toi {i : Int} {t : Tok} {Q : PQ} (R : HR cx H s.heap) (q : Q (.int i) H) :
    wpAny (model cx.prog cx.w) A (call (.type "int") [.int i t]) (Pst (VR cx.fa) cx H s Q) Er s :=
  call_int_int (Pst.intro (tk := s.toks) (.int _ _) R q)
theorem p_sum {r : Nat} {is : List Int} {Q : PQ} (hh : A.handled = none) (R : HR cx H s.heap) (hr : IL H r is) (q : Q (.int is.sum) H) :
    wpAny (model cx.prog cx.w) A (call (.builtin "sum") [.ref r]) (Pst (VR cx.fa) cx H s Q) Er s := by
  obtain ⟨ws, n, h1, h2⟩ := R.ints hr
  obtain ⟨xs, hx⟩ := h2.allInts.items
  have hl : s.heap.IsList r (intItems xs) := hx ▸ h1.isList
  refine sum_intListG hh hl fun h' tk t' hk => ?_
  have e1 : is = xs.toList.map (·.1) := by
    rw [← nums_intItems, ← hx]
    exact (show numsOf ws.toArray.toList = is from h2.numsOf).symm
  have e2 : preSum (numAt xs) xs.size = is.sum := by
    rw [preSum_eq, List.take_of_length_le (by simp), e1]
  rw [e2]
  obtain ⟨R', e'⟩ := R.grow hk
  exact ⟨_, H, h', tk, rfl, .int _ _, R', e', q⟩
theorem p_min {i j : Int} {t u : Tok} {Q : PQ} (hh : A.handled = none) (R : HR cx H s.heap) (q : Q (.int (if j < i then j else i)) H) :
    wpAny (model cx.prog cx.w) A (call (.builtin "min") [.int i t, .int j u]) (Pst (VR cx.fa) cx H s Q) Er s :=
  min_two_ints hh fun h' tk hk => by
    obtain ⟨R', e'⟩ := R.grow hk
    refine ⟨_, H, h', tk, rfl, ?_, R', e', q⟩
    split <;> exact .int _ _
theorem p_max {i j : Int} {t u : Tok} {Q : PQ} (hh : A.handled = none) (R : HR cx H s.heap) (q : Q (.int (if j > i then j else i)) H) :
    wpAny (model cx.prog cx.w) A (call (.builtin "max") [.int i t, .int j u]) (Pst (VR cx.fa) cx H s Q) Er s :=
  max_two_ints hh fun h' tk hk => by
    obtain ⟨R', e'⟩ := R.grow hk
    refine ⟨_, H, h', tk, rfl, ?_, R', e', q⟩
    split <;> exact .int _ _
structure BOk (cx : Cx) : Prop where
  g : cx.B.Ns mainGlobals cx.mg
  b : cx.B.Ns builtinsNs cx.mb
  obj : ∀ k, ∃ o fd, cx.B.get? (cx.fa k) = some o ∧ o.data = .func fd
  fn : ∀ (k : Nat) x, cx.fns[k]? = some x → cx.mg x = some (.ref (cx.fa k))
  bl : ∀ y : String, y ∈ ["len", "abs", "int", "sum", "min", "max", "range", "enumerate"] → cx.mg (Str.ofString y) = none ∧ cx.mb (Str.ofString y) = bootBuiltins (Str.ofString y)
theorem beqFalse_of_bne {x y : Str} (h : (x != y) = true) : (x == y) = false := by
  rw [bne_iff_ne] at h; exact beq_false_of_ne h
theorem var_dbg {mc : MC} {i : Nat} {x : Str} (h : mc.isVar i x = true) : (x == ("__debug__" : Str)) = false := by
  unfold MC.isVar at h
  rw [Bool.and_eq_true] at h
  exact beqFalse_of_bne h.2
theorem p_load {fi : FI} {mc : MC} {l : Loc} {i : Nat} {x : Str} {v : V} {Q : PQ} (F : FOk cx fi mc) (R : HR cx H s.heap) (L : LR cx fi l s.heap) (hx : mc.isVar i x = true) (hv : l[i]? = some (some v)) (q : Q v H) :
    wpAny (model cx.prog cx.w) A (loadName fi.env x) (Pst (VR cx.fa) cx H s Q) Er s := by
  unfold MC.isVar at hx
  rw [Bool.and_eq_true, beq_iff_eq] at hx
  obtain ⟨a, h3, h4⟩ := F.var i x hx.1
  have hg : l.getD i none = some v := by simp [List.getD, hv]
  have fin : ∀ w, OR cx.fa (some v) (some w) → Pst (VR cx.fa) cx H s Q w s := fun w hw => Pst.intro (tk := s.toks) hw R q
  rcases h4 with rfl | ⟨c, rfl⟩
  · obtain ⟨m, hn, hm⟩ := L.ns
    have := hm i x h3
    rw [hg] at this
    cases hmx : m x with
    | none => rw [hmx] at this; exact this.elim
    | some w => rw [hmx] at this; exact wpAny_loadName_local F.kind (F.loc i x h3) hn hmx (fin w this)
  · obtain ⟨o, hc, ho⟩ := L.cells i x c h3
    rw [hg] at ho
    cases o with
    | none => exact ho.elim
    | some w =>
      obtain ⟨hk, hcl⟩ := F.cell i x c h3
      rcases hk with hk | ⟨hk, hn⟩
      · exact wpAny_loadName_cell F.kind hk hcl hc (fin w ho)
      · exact wpAny_loadName_free F.kind hk hcl hc (fin w ho) hn
theorem p_var {fi : FI} {mc : MC} {l : Loc} {i : Nat} {x : Str} {pos : Pos} {v : V} {Q : PQ} (F : FOk cx fi mc) (R : HR cx H s.heap) (L : LR cx fi l s.heap) (hx : mc.isVar i x = true) (hv : l[i]? = some (some v)) (q : Q v H) :
    wpAny (model cx.prog cx.w) A (eval (.Name x pos) fi.env) (Pst (VR cx.fa) cx H s Q) Er s := wpAny_Name (p_load F R L hx hv q) (var_dbg hx)
theorem glob_dbg {mc : MC} {x : Str} (h : mc.glob x = true) : (x == ("__debug__" : Str)) = false := by
  unfold MC.glob at h
  rw [Bool.and_eq_true] at h
  exact beqFalse_of_bne h.2
theorem p_fn {fi : FI} {mc : MC} {k : Nat} {x : Str} {pos : Pos} {Q : PQ} (B : BOk cx) (F : FOk cx fi mc) (R : HR cx H s.heap) (hx : mc.fns[k]? = some x) (hg : mc.glob x = true) (q : Q (.fn k) H) :
    wpAny (model cx.prog cx.w) A (eval (.Name x pos) fi.env) (Pst (VR cx.fa) cx H s Q) Er s := by
  rw [F.fns] at hx
  refine Name_function_global F.kind (F.gk x hg) (loadGlobal_global (by rw [F.glob]; exact B.g.keeps R.base) (B.fn k x hx) ?_) (glob_dbg hg)
  exact Pst.intro (tk := s.toks) (.fn k) R q
theorem p_blt {fi : FI} {mc : MC} {y : String} {x : Str} {pos : Pos} {v : Value} {P : Value → Shared → Prop} (B : BOk cx) (F : FOk cx fi mc) (R : HR cx H s.heap) (hx : mc.blt x y = true)
    (hy : y ∈ ["len", "abs", "int", "sum", "min", "max", "range", "enumerate"]) (hv : bootBuiltins (Str.ofString y) = some v) (q : P v s) :
    wpAny (model cx.prog cx.w) A (eval (.Name x pos) fi.env) P Er s := by
  unfold MC.blt at hx
  rw [Bool.and_eq_true, beq_iff_eq] at hx
  obtain ⟨rfl, hg⟩ := hx
  obtain ⟨h1, h2⟩ := B.bl y hy
  exact Name_function_global F.kind (F.gk _ hg) (loadGlobal_builtin (by rw [F.glob]; exact B.g.keeps R.base) h1 (by rw [F.blt]; exact B.b.keeps R.base) (h2.trans hv) q) (glob_dbg hg)
end
end Mine
end
section
open PySem PySem.Calls PySem.W PyProof.Rows PySem.Spec
set_option maxRecDepth 100000
namespace Mine
structure Ph (cx : Cx) (n : Nat) (Φ : Phi) : Prop where
  call : ∀ k vs H Q, Φ k vs H Q →
    ∀ (A : Around) (s : Shared) Er vals, AOk n A → HR cx H s.heap → Are cx.fa vs vals → wpAny (model cx.prog cx.w) A (call (.ref (cx.fa k)) vals) (Pst (VR cx.fa) cx H s Q) Er s
noncomputable def SE (cx : Cx) (n : Nat) (Φ : Phi) (e : E) : Prop := ∀ (fi : FI) (mc : MC) (pe : Expr) (l : Loc) (H : AH) (Q : PQ) (A : Around) (s : Shared) Er,
  mE mc e pe = true → FOk cx fi mc → AOk n A → HR cx H s.heap → LR cx fi l s.heap → evalS Φ e l H Q → wpAny (model cx.prog cx.w) A (eval pe fi.env) (Pst (VR cx.fa) cx H s Q) Er s
noncomputable def SC (cx : Cx) (n : Nat) (Φ : Phi) (c : C) : Prop := ∀ (fi : FI) (mc : MC) (pe : Expr) (l : Loc) (H : AH) (Q : Bool → AH → Prop) (A : Around) (s : Shared) Er,
  mC mc c pe = true → FOk cx fi mc → AOk n A → HR cx H s.heap → LR cx fi l s.heap → condS Φ c l H Q → wpAny (model cx.prog cx.w) A (isTrue pe fi.env (eval pe fi.env)) (Pst (· = ·) cx H s Q) Er s
noncomputable def SEs (cx : Cx) (n : Nat) (Φ : Phi) (es : Es) : Prop := ∀ (fi : FI) (mc : MC) (ps : List Expr) (l : Loc) (H : AH) (Q : List V → AH → Prop) (A : Around) (s : Shared) Er (pos : Pos),
  mEs mc es ps = true → FOk cx fi mc → AOk n A → HR cx H s.heap → LR cx fi l s.heap → evalsS Φ es l H Q → wpAny (model cx.prog cx.w) A (spliced (backTo pos (starEach ps fi.env))) (Pst (Are cx.fa) cx H s Q) Er s
noncomputable def RgP (cx : Cx) (H : AH) (s : Shared) (Q : Int → Int → Int → AH → Prop) (v : Value) (s' : Shared) : Prop :=
  ∃ lo hi st H' h' tk r t u w, s' = { s with heap := h', toks := tk } ∧ v = .ref r ∧ IsRange h' r lo hi st t u w ∧ HR cx H' h' ∧ Ext NoX H s.heap H' h' ∧ Q lo hi st H'
noncomputable def SR (cx : Cx) (n : Nat) (Φ : Phi) (r : R) : Prop := ∀ (fi : FI) (mc : MC) (pe : Expr) (l : Loc) (H : AH) (Q : Int → Int → Int → AH → Prop) (A : Around) (s : Shared) Er,
  mR mc r pe = true → FOk cx fi mc → AOk n A → HR cx H s.heap → LR cx fi l s.heap → rangeS Φ r l H (fun lo hi st H' => rangeOk lo hi st ∧ Q lo hi st H') → wpAny (model cx.prog cx.w) A (eval pe fi.env) (RgP cx H s fun lo hi st H' => rangeOk lo hi st ∧ Q lo hi st H') Er s
variable {cx : Cx} {n : Nat} {Φ : Phi}
theorem wp_up {α β : Type} {r : α → β → Prop} {M : Model} {A : Around} {H H₁ : AH} {s s' : Shared} {h₁ : Heap} {tk : Nat} {t : Sem β} {Q : α → AH → Prop} {Er : Value → Shared → Prop} (e : Ext NoX H s.heap H₁ h₁)
    (h : wpAny M A t (Pst r cx H₁ { s with heap := h₁, toks := tk } Q) Er s') : wpAny M A t (Pst r cx H s Q) Er s' := wpAny_mono h (fun _ _ p => p.up e) fun _ _ e => e
noncomputable def goodIdx (k : Nat) : Bool := !(k == 7 || k == 9 || k == 10 || k == 22 || k == 26)
theorem mE_idx {mc : MC} {pe : Expr} : ∀ {e : E}, mE mc e pe = true → goodIdx pe.ctorIdx = true
  | .var .., h => i_mE_var (R := fun z => goodIdx z.ctorIdx = true) h fun _ _ _ => rfl
  | .fn .., h => i_mE_fn (R := fun z => goodIdx z.ctorIdx = true) h fun _ _ _ => rfl
  | .int .., h => i_mE_int (R := fun z => goodIdx z.ctorIdx = true) h fun _ _ _ _ => rfl
  | .boo .., h => i_mE_boo (R := fun z => goodIdx z.ctorIdx = true) h fun _ _ _ _ => rfl
  | .bin .., h => i_mE_bin (R := fun z => goodIdx z.ctorIdx = true) h fun _ _ _ _ _ => rfl
  | .neg .., h => i_mE_neg (R := fun z => goodIdx z.ctorIdx = true) h fun _ _ _ => rfl
  | .cmp .., h => i_mE_cmp (R := fun z => goodIdx z.ctorIdx = true) h fun _ _ _ _ _ => rfl
  | .ite .., h => i_mE_ite (R := fun z => goodIdx z.ctorIdx = true) h fun _ _ _ _ _ => rfl
  | .idx .., h => i_mE_idx (R := fun z => goodIdx z.ctorIdx = true) h fun _ _ _ _ => rfl
  | .slT .., h => i_mE_slT (R := fun z => goodIdx z.ctorIdx = true) h fun _ _ _ _ _ _ => rfl
  | .slF .., h => i_mE_slF (R := fun z => goodIdx z.ctorIdx = true) h fun _ _ _ _ _ _ => rfl
  | .slB .., h => i_mE_slB (R := fun z => goodIdx z.ctorIdx = true) h fun _ _ _ _ _ _ _ => rfl
  | .slA .., h => i_mE_slA (R := fun z => goodIdx z.ctorIdx = true) h fun _ _ _ _ _ => rfl
  | .rev .., h => i_mE_rev (R := fun z => goodIdx z.ctorIdx = true) h fun _ _ _ _ _ _ _ _ => rfl
  | .lst .., h => i_mE_lst (R := fun z => goodIdx z.ctorIdx = true) h fun _ _ _ => rfl
  | .tup .., h => i_mE_tup (R := fun z => goodIdx z.ctorIdx = true) h fun _ _ _ _ => rfl
  | .call .., h => i_mE_call (R := fun z => goodIdx z.ctorIdx = true) h fun _ _ _ _ _ _ => rfl
  | .len .., h => i_mE_len (R := fun z => goodIdx z.ctorIdx = true) h fun _ _ _ _ _ => rfl
  | .abs .., h => i_mE_abs (R := fun z => goodIdx z.ctorIdx = true) h fun _ _ _ _ _ => rfl
  | .toi .., h => i_mE_toi (R := fun z => goodIdx z.ctorIdx = true) h fun _ _ _ _ _ => rfl
  | .sum .., h => i_mE_sum (R := fun z => goodIdx z.ctorIdx = true) h fun _ _ _ _ _ => rfl
  | .min .., h => i_mE_min (R := fun z => goodIdx z.ctorIdx = true) h fun _ _ _ _ _ _ => rfl
  | .max .., h => i_mE_max (R := fun z => goodIdx z.ctorIdx = true) h fun _ _ _ _ _ _ => rfl
  | .bitlen .., h => i_mE_bitlen (R := fun z => goodIdx z.ctorIdx = true) h fun _ _ _ _ _ => rfl
  | .cmpL .., h => i_mE_cmpL (R := fun z => goodIdx z.ctorIdx = true) h fun _ _ _ _ _ _ _ => rfl
  | .cmpE .., h => i_mE_cmpE (R := fun z => goodIdx z.ctorIdx = true) h fun _ _ _ _ _ _ _ _ _ _ _ _ _ _ => rfl
  | .cmpR .., h => i_mE_cmpR (R := fun z => goodIdx z.ctorIdx = true) h fun _ _ _ _ _ _ _ => rfl
theorem mE_plain {mc : MC} {e : E} {pe : Expr} (h : mE mc e pe = true) : (∀ op, behindInMarks op pe = false) ∧ (∀ env, starEach [pe] env = [(false, eval pe env)]) := by
  have h := mE_idx h
  constructor
  · intro op
    cases pe <;> first | rfl | exact absurd h Bool.false_ne_true
  · intro env
    cases pe <;> first | rfl | exact absurd h Bool.false_ne_true
theorem starEach_cons {mc : MC} {e : E} {pe : Expr} {r : List Expr} {env : Env} (h : mE mc e pe = true) : starEach (pe :: r) env = (false, eval pe env) :: starEach r env := by
  have := (mE_plain h).2 env
  cases pe <;> first | rfl | skip
  rw [starEach] at this
  cases this
theorem sE_var {i : Nat} : SE cx n Φ (.var i) := by
  intro fi mc pe l H Q A s Er h F hA R L hs
  apply i_mE_var h
  intro _ _ h
  replace hs := varS_iff.mp hs
  obtain ⟨v, hv, q⟩ := hs
  exact p_var F R L h hv q
theorem sE_fn (B : BOk cx) {k : Nat} : SE cx n Φ (.fn k) := by
  intro fi mc pe l H Q A s Er h F hA R L hs
  apply i_mE_fn h
  intro _ _ h
  rw [Bool.and_eq_true, beq_iff_eq] at h
  exact p_fn B F R h.1 h.2 hs
theorem sE_int {i : Int} : SE cx n Φ (.int i) := by
  intro fi mc pe l H Q A s Er h F hA R L hs
  apply i_mE_int h
  intro _ _ _ h
  rw [beq_iff_eq] at h
  subst h
  exact wpAny_Constant_int (Pst.intro (.int _ _) R hs)
theorem sE_boo {b : Bool} : SE cx n Φ (.boo b) := by
  intro fi mc pe l H Q A s Er h F hA R L hs
  apply i_mE_boo h
  intro _ _ _ h
  rw [beq_iff_eq] at h
  subst h
  rw [eval_Constant]
  exact wpAny_pure (Pst.intro (tk := s.toks) (.bool _) R hs)
theorem sE_bin {op : Op} {a b : E} (ha : SE cx n Φ a) (hb : SE cx n Φ b) : SE cx n Φ (.bin op a b) := by
  intro fi mc pe l H Q A s Er h F hA R L hs
  apply i_mE_bin h
  intro _ _ _ _ h
  simp only [Bool.and_eq_true] at h
  refine wpAny_BinOp (wp_then (ha _ _ _ _ _ _ _ _ _ h.1.2 F hA R L hs) fun x v H₁ h₁ tk hx R₁ e₁ hs₁ => ?_)
  refine wp_then (s := { s with heap := h₁, toks := tk }) (hb _ _ _ _ _ _ _ _ _ h.2 F hA R₁ (L.ext R e₁) hs₁) fun y w H₂ h₂ tk₂ hy R₂ e₂ hs₂ => ?_
  exact wp_up (e₁.trans e₂) (p_bin (s := { s with heap := h₂, toks := tk₂ }) h.1.1 R₂ hx hy hs₂)
theorem sE_neg {a : E} (ha : SE cx n Φ a) : SE cx n Φ (.neg a) := by
  intro fi mc pe l H Q A s Er h F hA R L hs
  apply i_mE_neg h
  intro _ _ h
  refine UnaryOp_ (wp_then (ha _ _ _ _ _ _ _ _ _ h F hA R L hs) fun x v H₁ h₁ tk hx R₁ e₁ hs₁ => ?_)
  replace hs₁ := asI_iff.mp hs₁
  obtain ⟨i, rfl, q⟩ := hs₁
  cases hx
  exact wp_up (tk := tk) e₁ <| neg_int (Pst.intro (s := { s with heap := h₁, toks := tk }) (.int _ _) R₁ q)
theorem sE_cmp {op : Cp} {a b : E} (ha : SE cx n Φ a) (hb : SE cx n Φ b) : SE cx n Φ (.cmp op a b) := by
  intro fi mc pe l H Q A s Er h F hA R L hs
  apply i_mE_cmp h
  intro _ _ _ _ h
  simp only [Bool.and_eq_true] at h
  refine wpAny_Compare1 (wp_then (ha _ _ _ _ _ _ _ _ _ h.1.2 F hA R L hs) fun x v H₁ h₁ tk hx R₁ e₁ hs₁ => ?_) ((mE_plain h.2).1 _)
  refine wp_then (s := { s with heap := h₁, toks := tk }) (hb _ _ _ _ _ _ _ _ _ h.2 F hA R₁ (L.ext R e₁) hs₁) fun y w H₂ h₂ tk₂ hy R₂ e₂ hs₂ => ?_
  exact wp_up (e₁.trans e₂) (p_cmp (s := { s with heap := h₂, toks := tk₂ }) h.1.1 R₂ (by have := hA.units; exact o30 this) hx hy hs₂ fun b q => Pst.intro (s := { s with heap := h₂, toks := tk₂ }) (tk := tk₂) (.bool b) R₂ q)
theorem sE_ite {c : C} {a b : E} (hc : SC cx n Φ c) (ha : SE cx n Φ a) (hb : SE cx n Φ b) : SE cx n Φ (.ite c a b) := by
  intro fi mc pe l H Q A s Er h F hA R L hs
  apply i_mE_ite h
  intro _ _ _ _ h
  simp only [Bool.and_eq_true] at h
  refine IfExp_ (wp_then (hc _ _ _ _ _ _ _ _ _ h.1.1 F hA R L hs) fun x v H₁ h₁ tk hx R₁ e₁ hs₁ => ?_)
  subst hx
  cases x with
  | true => exact wpAny_mono (ha _ _ _ _ _ _ _ { s with heap := h₁, toks := tk } _ h.1.2 F hA R₁ (L.ext R e₁) (hs₁.1 rfl)) (fun _ _ p => p.up e₁) fun _ _ e => e
  | false => exact wpAny_mono (hb _ _ _ _ _ _ _ { s with heap := h₁, toks := tk } _ h.2 F hA R₁ (L.ext R e₁) (hs₁.2 rfl)) (fun _ _ p => p.up e₁) fun _ _ e => e
theorem sE_idx {a i : E} (ha : SE cx n Φ a) (hi : SE cx n Φ i) : SE cx n Φ (.idx a i) := by
  intro fi mc pe l H Q A s Er h F hA R L hs
  apply i_mE_idx h
  intro _ _ _ h
  simp only [Bool.and_eq_true] at h
  refine Subscript_ (wp_then (ha _ _ _ _ _ _ _ _ _ h.1 F hA R L hs) fun x v H₁ h₁ tk hx R₁ e₁ hs₁ => ?_)
  refine wp_then (s := { s with heap := h₁, toks := tk }) (hi _ _ _ _ _ _ _ _ _ h.2 F hA R₁ (L.ext R e₁) hs₁) fun y w H₂ h₂ tk₂ hy R₂ e₂ hs₂ => ?_
  obtain ⟨r, k, xs, v, rfl, rfl, hr, hsz, hk, q⟩ := hs₂
  cases hx; cases hy
  refine wp_up (e₁.trans e₂) (p_item (s := { s with heap := h₂, toks := tk₂ }) R₂ hr hsz hk q ?_)
  have h2 := h.2
  rename_i pv ps p t
  replace h2 := mE_idx h2
  cases ps <;> first | rfl | exact absurd h2 Bool.false_ne_true
end Mine
end
section
open PySem PySem.Calls PySem.W PyProof.Rows PySem.Spec
set_option maxRecDepth 100000
namespace Mine
variable {cx : Cx} {n : Nat} {Φ : Phi}
theorem ep_none {M : Model} {A : Around} {env : Env} {P : Value → Shared → Prop} {Er : Value → Shared → Prop} {s : Shared} (h : P .none s) : wpAny M A (evalPart none env) P Er s := wpAny_pure h
theorem sE_slT {a b : E} (ha : SE cx n Φ a) (hb : SE cx n Φ b) : SE cx n Φ (.slT a b) := by
  intro fi mc pe l H Q A s Er h F hA R L hs
  apply i_mE_slT h
  intro _ _ _ _ _ h
  simp only [Bool.and_eq_true] at h
  refine Subscript_ (wp_then (ha _ _ _ _ _ _ _ _ _ h.1 F hA R L hs) fun x v H₁ h₁ tk hx R₁ e₁ hs₁ => ?_)
  refine wpAny_Slice (ep_none ?_)
  refine wp_then (s := { s with heap := h₁, toks := tk }) (hb _ _ _ _ _ _ _ _ _ h.2 F hA R₁ (L.ext R e₁) hs₁) fun y w H₂ h₂ tk₂ hy R₂ e₂ hs₂ => ep_none ?_
  replace hs₂ := asI_iff.mp hs₂
  obtain ⟨k, rfl, hs₂⟩ := hs₂
  cases hy
  exact wp_up (e₁.trans e₂) (p_cut (s := { s with heap := h₂, toks := tk₂ }) (ops := [.ref h₂.objs.size]) R₂ hx .none (.int _ _) rfl hs₂ fun _ => rfl)
theorem sE_slF {a b : E} (ha : SE cx n Φ a) (hb : SE cx n Φ b) : SE cx n Φ (.slF a b) := by
  intro fi mc pe l H Q A s Er h F hA R L hs
  apply i_mE_slF h
  intro _ _ _ _ _ h
  simp only [Bool.and_eq_true] at h
  refine Subscript_ (wp_then (ha _ _ _ _ _ _ _ _ _ h.1 F hA R L hs) fun x v H₁ h₁ tk hx R₁ e₁ hs₁ => ?_)
  refine wpAny_Slice ?_
  refine wp_then (s := { s with heap := h₁, toks := tk }) (hb _ _ _ _ _ _ _ _ _ h.2 F hA R₁ (L.ext R e₁) hs₁) fun y w H₂ h₂ tk₂ hy R₂ e₂ hs₂ => ep_none (ep_none ?_)
  replace hs₂ := asI_iff.mp hs₂
  obtain ⟨k, rfl, hs₂⟩ := hs₂
  cases hy
  exact wp_up (e₁.trans e₂) (p_cut (s := { s with heap := h₂, toks := tk₂ }) (ops := [.ref h₂.objs.size]) R₂ hx (.int _ _) .none rfl hs₂ fun _ => rfl)
theorem sE_slB {a b c : E} (ha : SE cx n Φ a) (hb : SE cx n Φ b) (hc : SE cx n Φ c) : SE cx n Φ (.slB a b c) := by
  intro fi mc pe l H Q A s Er h F hA R L hs
  apply i_mE_slB h
  intro _ _ _ _ _ _ h
  simp only [Bool.and_eq_true] at h
  refine Subscript_ (wp_then (ha _ _ _ _ _ _ _ _ _ h.1.1 F hA R L hs) fun x v H₁ h₁ tk hx R₁ e₁ hs₁ => ?_)
  refine wpAny_Slice ?_
  refine wp_then (s := { s with heap := h₁, toks := tk }) (hb _ _ _ _ _ _ _ _ _ h.1.2 F hA R₁ (L.ext R e₁) hs₁) fun y w H₂ h₂ tk₂ hy R₂ e₂ hs₂ => ?_
  refine wp_then (s := { s with heap := h₂, toks := tk₂ }) (hc _ _ _ _ _ _ _ _ _ h.2 F hA R₂ (L.ext R (e₁.trans e₂)) hs₂) fun z u H₃ h₃ tk₃ hz R₃ e₃ hs₃ => ep_none ?_
  replace hs₃ := asI_iff.mp hs₃
  obtain ⟨k, rfl, hs₃⟩ := hs₃
  replace hs₃ := asI_iff.mp hs₃
  obtain ⟨m, rfl, hs₃⟩ := hs₃
  cases hy; cases hz
  exact wp_up ((e₁.trans e₂).trans e₃) (p_cut (s := { s with heap := h₃, toks := tk₃ }) (ops := [.ref h₃.objs.size]) R₃ hx (.int _ _) (.int _ _) rfl hs₃ fun _ => rfl)
theorem sE_slA {a : E} (ha : SE cx n Φ a) : SE cx n Φ (.slA a) := by
  intro fi mc pe l H Q A s Er h F hA R L hs
  apply i_mE_slA h
  intro _ _ _ _ h
  refine Subscript_ (wp_then (ha _ _ _ _ _ _ _ _ _ h F hA R L hs) fun x v H₁ h₁ tk hx R₁ e₁ hs₁ => ?_)
  refine wpAny_Slice (ep_none (ep_none (ep_none ?_)))
  exact wp_up e₁ (p_cut (s := { s with heap := h₁, toks := tk }) (ops := [.ref h₁.objs.size]) R₁ hx .none .none rfl hs₁ fun _ => rfl)
theorem sE_rev {a : E} (ha : SE cx n Φ a) : SE cx n Φ (.rev a) := by
  intro fi mc pe l H Q A s Er h F hA R L hs
  apply i_mE_rev h
  intro _ _ _ _ _ _ _ h
  refine Subscript_ (wp_then (ha _ _ _ _ _ _ _ _ _ h F hA R L hs) fun x v H₁ h₁ tk hx R₁ e₁ hs₁ => ?_)
  refine wpAny_Slice (ep_none (ep_none ?_))
  refine UnaryOp_ (wpAny_Constant_int (neg_int ?_))
  replace hs₁ := asR_iff.mp hs₁
  obtain ⟨r, rfl, hs₁⟩ := hs₁
  replace hs₁ := asL_iff.mp hs₁
  obtain ⟨xs, hr, hsz, q⟩ := hs₁
  cases hx
  exact wp_up (tk := tk + 1 + 1) e₁ (p_rev (s := { s with heap := h₁, toks := tk + 1 + 1 }) (ops := [.ref r, .ref h₁.objs.size]) R₁ hr hsz (.int _ _) q rfl)
theorem sEs_nil : SEs cx n Φ .nil := by
  intro fi mc ps l H Q A s Er pos h F hA R L hs
  cases ps with
  | nil => exact Calls.spliced_nil (Pst.intro (tk := s.toks) .nil R hs)
  | cons => exact absurd h Bool.false_ne_true
theorem sEs_cons {e : E} {r : Es} (he : SE cx n Φ e) (hr : SEs cx n Φ r) : SEs cx n Φ (.cons e r) := by
  intro fi mc ps l H Q A s Er pos h F hA R L hs
  cases ps with
  | nil => exact absurd h Bool.false_ne_true
  | cons p ps =>
    replace h := Bool.and_eq_true_iff.mp h
    rw [starEach_cons h.1]
    show wpAny _ _ (spliced ((false, eval p fi.env) :: backTo pos (starEach ps fi.env))) _ _ _
    refine Calls.spliced_cons (wp_then (he _ _ _ _ _ _ _ _ _ h.1 F hA R L hs) fun x v H₁ h₁ tk hx R₁ e₁ hs₁ => ?_)
    refine wp_then (s := { s with heap := h₁, toks := tk }) (hr _ _ _ _ _ _ _ _ _ _ h.2 F hA R₁ (L.ext R e₁) hs₁) fun y w H₂ h₂ tk₂ hy R₂ e₂ hs₂ => ?_
    exact ⟨_, H₂, h₂, tk₂, rfl, .cons hx hy, R₂, e₁.trans e₂, hs₂⟩
theorem sE_lst {es : Es} (hes : SEs cx n Φ es) : SE cx n Φ (.lst es) := by
  intro fi mc pe l H Q A s Er h F hA R L hs
  apply i_mE_lst h
  intro _ _ h
  refine List_ (wp_then (hes _ _ _ _ _ _ _ _ _ _ h F hA R L hs) fun x v H₁ h₁ tk hx R₁ e₁ hs₁ => ?_)
  obtain ⟨hsz, q⟩ := hs₁
  refine wp_up (tk := tk) e₁ (wpAny_newObj_type (Pst.newList (s := { s with heap := h₁, toks := tk }) R₁ (fun _ _ e => e) hx q) ?_)
  show v.toArray.size ≤ sizeLine
  rw [List.size_toArray, hx.length]; exact lim_le hsz
theorem sE_tup {es : Es} (hes : SEs cx n Φ es) : SE cx n Φ (.tup es) := by
  intro fi mc pe l H Q A s Er h F hA R L hs
  apply i_mE_tup h
  intro _ _ _ h
  refine Tuple_ (wp_then (hes _ _ _ _ _ _ _ _ _ _ h F hA R L hs) fun x v H₁ h₁ tk hx R₁ e₁ hs₁ => ?_)
  obtain ⟨hsz, q⟩ := hs₁
  refine wp_up (tk := tk) e₁ (wpAny_newObj_type (Pst.newTup (s := { s with heap := h₁, toks := tk }) R₁ hx q) ?_)
  show v.toArray.size ≤ sizeLine
  rw [List.size_toArray, hx.length]; exact lim_le hsz
theorem ea_of {M : Model} {A : Around} {f : Value} {a : Expr} {r : List Expr} {pos : Pos} {env : Env} {mc : MC} {e : E} {P : Args → Shared → Prop} {Er : Value → Shared → Prop} {s : Shared} (hm : mE mc e a = true)
    (h : wpAny M A (spliced (backTo pos (starEach (a :: r) env))) (fun vs s' => P ⟨vs, []⟩ s') Er s) : wpAny M A (evalArgs f true (backTo pos (starEach (a :: r) env)) []) P Er s := by
  rw [starEach_cons hm] at h ⊢
  exact Calls.evalArgs_plain h
theorem plainArgs {ps : List Expr} {mc : MC} {env : Env} {pos : Pos} : ∀ {es : Es}, mEs mc es ps = true → (backTo pos (starEach ps env)).any (·.1) = false := by
  induction ps with
  | nil => intro es _; rfl
  | cons p ps ih =>
    intro es h
    cases es with
    | nil => exact absurd h Bool.false_ne_true
    | cons e r =>
      replace h := Bool.and_eq_true_iff.mp h
      rw [starEach_cons h.1]
      show (false || (backTo pos (starEach ps env)).any (·.1)) = false
      rw [ih h.2]; rfl
theorem Call_Name {M : Model} {A : Around} {env : Env} {x : Str} {p pos : Pos} {args : List Expr} {P : Value → Shared → Prop} {Er : Value → Shared → Prop} {s : Shared}
    (h : wpAny M A (eval (.Name x p) env) (fun f s₁ => wpAny M A (callWith pos f [] (backTo pos (starEach args env)) []) P Er s₁) Er s) :
    wpAny M A (eval (.Call (.Name x p) args [] pos) env) P Er s := by
  rw [arm_eval_Call_Name']
  exact wpAny_bind h
theorem sE_call (B : BOk cx) (P : Ph cx n Φ) {f : E} {es : Es} (hf : SE cx n Φ f) (hes : SEs cx n Φ es) : SE cx n Φ (.call f es) := by
  intro fi mc pe l H Q A s Er h F hA R L hs
  apply i_mE_call h
  intro _ _ _ _ _ h
  simp only [Bool.and_eq_true] at h
  refine Call_Name (wp_then (hf _ _ _ _ _ _ _ _ _ h.1 F hA R L hs) fun x v H₁ h₁ tk hx R₁ e₁ hs₁ => ?_)
  replace hs₁ := asF_iff.mp hs₁
  obtain ⟨k, rfl, hs₁⟩ := hs₁
  cases hx
  obtain ⟨o, fd, ho, hd⟩ := B.obj k
  have h2 := h.2
  cases es with
  | nil => exact absurd h2 Bool.false_ne_true
  | cons e r =>
    have h3 := h2
    replace h3 := Bool.and_eq_true_iff.mp h3
    refine Calls.callWith_function (o := o) (fd := fd) (ea_of h3.1 ?_)
    refine wp_then (s := { s with heap := h₁, toks := tk }) (hes _ _ _ _ _ _ _ _ _ _ h2 F hA R₁ (L.ext R e₁) hs₁) fun y w H₂ h₂ tk₂ hy R₂ e₂ hs₂ => ?_
    exact ⟨⟨R₂.base _ _ ho, hd⟩, wp_up (e₁.trans e₂) (P.call k y H₂ Q hs₂ A { s with heap := h₂, toks := tk₂ } Er w hA R₂ hy)⟩
theorem blt1 (B : BOk cx) {fi : FI} {mc : MC} {y : String} {x : Str} {p pos : Pos} {a : E} {pa : Expr} {l : Loc} {H : AH} {Q₁ : PQ} {P : Value → Shared → Prop} {A : Around} {s : Shared} {Er} {id : String}
    (ha : SE cx n Φ a) (hx : mc.blt x y = true) (hm : mE mc a pa = true) (hy : y ∈ ["len", "abs", "int", "sum", "min", "max", "range", "enumerate"]) (hv : bootBuiltins (Str.ofString y) = some (.builtin id))
    (F : FOk cx fi mc) (hA : AOk n A) (R : HR cx H s.heap) (L : LR cx fi l s.heap) (hs : evalS Φ a l H Q₁)
    (k : ∀ x v H₁ h₁ tk, VR cx.fa x v → HR cx H₁ h₁ → Ext NoX H s.heap H₁ h₁ → Q₁ x H₁ → wpAny (model cx.prog cx.w) A (call (.builtin id) [v]) P Er { s with heap := h₁, toks := tk }) :
    wpAny (model cx.prog cx.w) A (eval (.Call (.Name x p) [pa] [] pos) fi.env) P Er s := by
  refine Call_Name (p_blt B F R hx hy hv ?_)
  refine Calls.callWith_builtin (by rw [starEach_cons hm]; rfl) (ea_of hm ?_)
  rw [starEach_cons hm]
  exact Calls.spliced_cons (wp_then (ha _ _ _ _ _ _ _ _ _ hm F hA R L hs) fun x v H₁ h₁ tk hx R₁ e₁ hs₁ => Calls.spliced_nil (k x v H₁ h₁ tk hx R₁ e₁ hs₁))
theorem blt1t (B : BOk cx) {fi : FI} {mc : MC} {y : String} {x : Str} {p pos : Pos} {a : E} {pa : Expr} {l : Loc} {H : AH} {Q₁ : PQ} {P : Value → Shared → Prop} {A : Around} {s : Shared} {Er} {T : String}
    (ha : SE cx n Φ a) (hx : mc.blt x y = true) (hm : mE mc a pa = true) (hy : y ∈ ["len", "abs", "int", "sum", "min", "max", "range", "enumerate"]) (hv : bootBuiltins (Str.ofString y) = some (.type T))
    (F : FOk cx fi mc) (hA : AOk n A) (R : HR cx H s.heap) (L : LR cx fi l s.heap) (hs : evalS Φ a l H Q₁)
    (k : ∀ x v H₁ h₁ tk, VR cx.fa x v → HR cx H₁ h₁ → Ext NoX H s.heap H₁ h₁ → Q₁ x H₁ → wpAny (model cx.prog cx.w) A (call (.type T) [v]) P Er { s with heap := h₁, toks := tk }) :
    wpAny (model cx.prog cx.w) A (eval (.Call (.Name x p) [pa] [] pos) fi.env) P Er s := by
  refine Call_Name (p_blt B F R hx hy hv ?_)
  refine PySem.callWith_type (by rw [starEach_cons hm]; rfl) (ea_of hm ?_)
  rw [starEach_cons hm]
  exact Calls.spliced_cons (wp_then (ha _ _ _ _ _ _ _ _ _ hm F hA R L hs) fun x v H₁ h₁ tk hx R₁ e₁ hs₁ => Calls.spliced_nil (k x v H₁ h₁ tk hx R₁ e₁ hs₁))
theorem sp2 {fi : FI} {mc : MC} {pos : Pos} {a b : E} {pa pb : Expr} {l : Loc} {H : AH} {Q₁ : PQ} {Q₂ : V → PQ} {P : List Value → Shared → Prop} {A : Around} {s : Shared} {Er}
    (ha : SE cx n Φ a) (hb : SE cx n Φ b) (hm : mE mc a pa = true) (hm' : mE mc b pb = true) (F : FOk cx fi mc) (hA : AOk n A) (R : HR cx H s.heap) (L : LR cx fi l s.heap) (hs : evalS Φ a l H Q₁) (hq : ∀ x H₁, Q₁ x H₁ → evalS Φ b l H₁ (Q₂ x))
    (k : ∀ x y v w H₁ h₁ tk, VR cx.fa x v → VR cx.fa y w → HR cx H₁ h₁ → Ext NoX H s.heap H₁ h₁ → Q₂ x y H₁ → P [v, w] { s with heap := h₁, toks := tk }) :
    wpAny (model cx.prog cx.w) A (spliced (backTo pos (starEach [pa, pb] fi.env))) P Er s := by
  rw [starEach_cons hm, starEach_cons hm']
  refine Calls.spliced_cons (wp_then (ha _ _ _ _ _ _ _ _ _ hm F hA R L hs) fun x v H₁ h₁ tk hx R₁ e₁ hs₁ => ?_)
  exact Calls.spliced_cons (wp_then (s := { s with heap := h₁, toks := tk }) (hb _ _ _ _ _ _ _ _ _ hm' F hA R₁ (L.ext R e₁) (hq x H₁ hs₁)) fun y w H₂ h₂ tk₂ hy R₂ e₂ hs₂ => Calls.spliced_nil (k x y v w H₂ h₂ tk₂ hx hy R₂ (e₁.trans e₂) hs₂))
theorem blt2 (B : BOk cx) {fi : FI} {mc : MC} {y : String} {x : Str} {p pos : Pos} {a b : E} {pa pb : Expr} {l : Loc} {H : AH} {Q₁ : PQ} {Q₂ : V → PQ} {P : Value → Shared → Prop} {A : Around} {s : Shared} {Er} {id : String}
    (ha : SE cx n Φ a) (hb : SE cx n Φ b) (hx : mc.blt x y = true) (hm : mE mc a pa = true) (hm' : mE mc b pb = true) (hy : y ∈ ["len", "abs", "int", "sum", "min", "max", "range", "enumerate"]) (hv : bootBuiltins (Str.ofString y) = some (.builtin id))
    (F : FOk cx fi mc) (hA : AOk n A) (R : HR cx H s.heap) (L : LR cx fi l s.heap) (hs : evalS Φ a l H Q₁) (hq : ∀ x H₁, Q₁ x H₁ → evalS Φ b l H₁ (Q₂ x))
    (k : ∀ x y v w H₁ h₁ tk, VR cx.fa x v → VR cx.fa y w → HR cx H₁ h₁ → Ext NoX H s.heap H₁ h₁ → Q₂ x y H₁ → wpAny (model cx.prog cx.w) A (call (.builtin id) [v, w]) P Er { s with heap := h₁, toks := tk }) :
    wpAny (model cx.prog cx.w) A (eval (.Call (.Name x p) [pa, pb] [] pos) fi.env) P Er s := by
  refine Call_Name (p_blt B F R hx hy hv ?_)
  refine Calls.callWith_builtin (by rw [starEach_cons hm, starEach_cons hm']; rfl) (ea_of hm ?_)
  exact sp2 ha hb hm hm' F hA R L hs hq k
theorem boot_of {y : String} {v : Value} (h : bootBuiltins (Str.ofString y) = some v) : bootBuiltins (Str.ofString y) = some v := h
theorem sE_len (B : BOk cx) {a : E} (ha : SE cx n Φ a) : SE cx n Φ (.len a) := by
  intro fi mc pe l H Q A s Er h F hA R L hs
  apply i_mE_len h
  intro _ _ _ _ h
  simp only [Bool.and_eq_true] at h
  refine blt1 B ha h.1 h.2 (by simp) PyProof.Rows.Boot.«len» F hA R L hs fun x v H₁ h₁ tk hx R₁ e₁ hs₁ => ?_
  replace hs₁ := asR_iff.mp hs₁
  obtain ⟨r, rfl, hs₁⟩ := hs₁
  replace hs₁ := asL_iff.mp hs₁
  obtain ⟨xs, hr, hsz, q⟩ := hs₁
  cases hx
  exact wp_up e₁ (p_len (s := { s with heap := h₁, toks := tk }) R₁ hr hsz q)
theorem sE_abs (B : BOk cx) {a : E} (ha : SE cx n Φ a) : SE cx n Φ (.abs a) := by
  intro fi mc pe l H Q A s Er h F hA R L hs
  apply i_mE_abs h
  intro _ _ _ _ h
  simp only [Bool.and_eq_true] at h
  refine blt1 B ha h.1 h.2 (by simp) PyProof.Rows.Boot.«abs» F hA R L hs fun x v H₁ h₁ tk hx R₁ e₁ hs₁ => ?_
  replace hs₁ := asI_iff.mp hs₁
  obtain ⟨i, rfl, q⟩ := hs₁
  cases hx
  exact wp_up e₁ (p_abs (s := { s with heap := h₁, toks := tk }) R₁ q)
theorem sE_toi (B : BOk cx) {a : E} (ha : SE cx n Φ a) : SE cx n Φ (.toi a) := by
  intro fi mc pe l H Q A s Er h F hA R L hs
  apply i_mE_toi h
  intro _ _ _ _ h
  simp only [Bool.and_eq_true] at h
  refine blt1t B ha h.1 h.2 (by simp) PyProof.Rows.Boot.«int» F hA R L hs fun x v H₁ h₁ tk hx R₁ e₁ hs₁ => ?_
  replace hs₁ := asI_iff.mp hs₁
  obtain ⟨i, rfl, q⟩ := hs₁
  cases hx
  exact wp_up e₁ (p_toi (s := { s with heap := h₁, toks := tk }) R₁ q)
theorem sE_sum (B : BOk cx) {a : E} (ha : SE cx n Φ a) : SE cx n Φ (.sum a) := by
  intro fi mc pe l H Q A s Er h F hA R L hs
  apply i_mE_sum h
  intro _ _ _ _ h
  simp only [Bool.and_eq_true] at h
  refine blt1 B ha h.1 h.2 (by simp) PyProof.Rows.Boot.«sum» F hA R L hs fun x v H₁ h₁ tk hx R₁ e₁ hs₁ => ?_
  obtain ⟨r, is, rfl, hr, q⟩ := hs₁
  cases hx
  exact wp_up e₁ (p_sum (s := { s with heap := h₁, toks := tk }) hA.hh R₁ hr q)
theorem sE_min (B : BOk cx) {a b : E} (ha : SE cx n Φ a) (hb : SE cx n Φ b) : SE cx n Φ (.min a b) := by
  intro fi mc pe l H Q A s Er h F hA R L hs
  apply i_mE_min h
  intro _ _ _ _ _ h
  simp only [Bool.and_eq_true] at h
  refine blt2 (Q₂ := fun x y H₂ => asI x fun i => asI y fun j => Q (.int (if j < i then j else i)) H₂) B ha hb h.1.1 h.1.2 h.2 (by simp) PyProof.Rows.Boot.«min» F hA R L hs (fun _ _ q => q) fun x y v w H₁ h₁ tk hx hy R₁ e₁ hs₁ => ?_
  replace hs₁ := asI_iff.mp hs₁
  obtain ⟨i, rfl, hs₁⟩ := hs₁
  replace hs₁ := asI_iff.mp hs₁
  obtain ⟨j, rfl, q⟩ := hs₁
  cases hx; cases hy
  exact wp_up e₁ (p_min (s := { s with heap := h₁, toks := tk }) hA.hh R₁ q)
theorem sE_max (B : BOk cx) {a b : E} (ha : SE cx n Φ a) (hb : SE cx n Φ b) : SE cx n Φ (.max a b) := by
  intro fi mc pe l H Q A s Er h F hA R L hs
  apply i_mE_max h
  intro _ _ _ _ _ h
  simp only [Bool.and_eq_true] at h
  refine blt2 (Q₂ := fun x y H₂ => asI x fun i => asI y fun j => Q (.int (if j > i then j else i)) H₂) B ha hb h.1.1 h.1.2 h.2 (by simp) PyProof.Rows.Boot.«max» F hA R L hs (fun _ _ q => q) fun x y v w H₁ h₁ tk hx hy R₁ e₁ hs₁ => ?_
  replace hs₁ := asI_iff.mp hs₁
  obtain ⟨i, rfl, hs₁⟩ := hs₁
  replace hs₁ := asI_iff.mp hs₁
  obtain ⟨j, rfl, q⟩ := hs₁
  cases hx; cases hy
  exact wp_up e₁ (p_max (s := { s with heap := h₁, toks := tk }) hA.hh R₁ q)
theorem sC_cmp {op : Cp} {a b : E} (ha : SE cx n Φ a) (hb : SE cx n Φ b) : SC cx n Φ (.cmp op a b) := by
  intro fi mc pe l H Q A s Er h F hA R L hs
  apply i_mC_cmp h
  intro _ _ _ _ h
  simp only [Bool.and_eq_true] at h
  refine wpAny_isTrue_Compare1 (wp_then (ha _ _ _ _ _ _ _ _ _ h.1.2 F hA R L hs) fun x v H₁ h₁ tk hx R₁ e₁ hs₁ => ?_) ((mE_plain h.2).1 _)
  refine wp_then (s := { s with heap := h₁, toks := tk }) (hb _ _ _ _ _ _ _ _ _ h.2 F hA R₁ (L.ext R e₁) hs₁) fun y w H₂ h₂ tk₂ hy R₂ e₂ hs₂ => ?_
  exact p_cmp (s := { s with heap := h₂, toks := tk₂ }) h.1.1 R₂ (by have := hA.units; exact o30 this) hx hy hs₂ fun b q => wpAny_truthy_bool (Pst.up (e₁.trans e₂) (Pst.intro (s := { s with heap := h₂, toks := tk₂ }) (tk := tk₂) rfl R₂ q))
theorem sC_not {a : C} (ha : SC cx n Φ a) : SC cx n Φ (.not a) := by
  intro fi mc pe l H Q A s Er h F hA R L hs
  apply i_mC_not h
  intro _ _ h
  refine isTrue_not (wp_then (ha _ _ _ _ _ _ _ _ _ h F hA R L hs) fun x v H₁ h₁ tk hx R₁ e₁ hs₁ => ?_)
  subst hx
  exact ⟨_, H₁, h₁, tk, rfl, rfl, R₁, e₁, hs₁⟩
theorem sC_and {a b : C} (ha : SC cx n Φ a) (hb : SC cx n Φ b) : SC cx n Φ (.and a b) := by
  intro fi mc pe l H Q A s Er h F hA R L hs
  apply i_mC_and h
  intro _ _ _ h
  simp only [Bool.and_eq_true] at h
  refine isTrue_and (wp_then (ha _ _ _ _ _ _ _ _ _ h.1 F hA R L hs) fun x v H₁ h₁ tk hx R₁ e₁ hs₁ => ?_)
  subst hx
  cases x with
  | false => exact ⟨_, H₁, h₁, tk, rfl, rfl, R₁, e₁, hs₁.1 rfl⟩
  | true =>
    refine isTrue_and (wp_then (s := { s with heap := h₁, toks := tk }) (hb _ _ _ _ _ _ _ _ _ h.2 F hA R₁ (L.ext R e₁) (hs₁.2 rfl)) fun x v H₂ h₂ tk₂ hx R₂ e₂ hs₂ => ?_)
    subst hx
    have fin : Pst (· = ·) cx H s Q x { s with heap := h₂, toks := tk₂ } := ⟨_, H₂, h₂, tk₂, rfl, rfl, R₂, e₁.trans e₂, hs₂⟩
    cases x with
    | false => exact fin
    | true => exact isTrue_and_nil fin
theorem sC_or {a b : C} (ha : SC cx n Φ a) (hb : SC cx n Φ b) : SC cx n Φ (.or a b) := by
  intro fi mc pe l H Q A s Er h F hA R L hs
  apply i_mC_or h
  intro _ _ _ h
  simp only [Bool.and_eq_true] at h
  refine isTrue_or (wp_then (ha _ _ _ _ _ _ _ _ _ h.1 F hA R L hs) fun x v H₁ h₁ tk hx R₁ e₁ hs₁ => ?_)
  subst hx
  cases x with
  | true => exact ⟨_, H₁, h₁, tk, rfl, rfl, R₁, e₁, hs₁.1 rfl⟩
  | false =>
    refine isTrue_or (wp_then (s := { s with heap := h₁, toks := tk }) (hb _ _ _ _ _ _ _ _ _ h.2 F hA R₁ (L.ext R e₁) (hs₁.2 rfl)) fun x v H₂ h₂ tk₂ hx R₂ e₂ hs₂ => ?_)
    subst hx
    have fin : Pst (· = ·) cx H s Q x { s with heap := h₂, toks := tk₂ } := ⟨_, H₂, h₂, tk₂, rfl, rfl, R₂, e₁.trans e₂, hs₂⟩
    cases x with
    | true => exact fin
    | false => exact isTrue_or_nil fin
theorem lastMarks_of {mc : MC} {c : E} {o₁ o₂ : CmpOp} {pb pc : Expr} (h2 : mE mc c pc = true) : lastMarks [o₁, o₂] [pb, pc] = false := (mE_plain h2).1 _
theorem sC_cmp2 {o₁ o₂ : Cp} {a b c : E} (ha : SE cx n Φ a) (hb : SE cx n Φ b) (hc : SE cx n Φ c) : SC cx n Φ (.cmp2 o₁ o₂ a b c) := by
  intro fi mc pe l H Q A s Er h F hA R L hs
  apply i_mC_cmp2 h
  intro _ _ _ _ _ _ h
  simp only [Bool.and_eq_true] at h
  refine isTrue_chain (wp_then (ha _ _ _ _ _ _ _ _ _ h.1.1.2 F hA R L hs) fun x v H₁ h₁ tk hx R₁ e₁ hs₁ => ?_) ((mE_plain h.2).1 _)
  refine test_link (wp_then (s := { s with heap := h₁, toks := tk }) (hb _ _ _ _ _ _ _ _ _ h.1.2 F hA R₁ (L.ext R e₁) hs₁) fun y w H₂ h₂ tk₂ hy R₂ e₂ hs₂ => ?_)
  refine p_cmp (s := { s with heap := h₂, toks := tk₂ }) h.1.1.1.1 R₂ (by have := hA.units; exact o30 this) hx hy hs₂ fun b q => wpAny_truthy_bool ?_
  cases b with
  | false => exact ⟨_, H₂, h₂, tk₂, rfl, rfl, R₂, e₁.trans e₂, q.1 rfl⟩
  | true =>
    refine test_last (wp_then (s := { s with heap := h₂, toks := tk₂ }) (hc _ _ _ _ _ _ _ _ _ h.2 F hA R₂ (L.ext R (e₁.trans e₂)) (q.2 rfl)) fun z u H₃ h₃ tk₃ hz R₃ e₃ hs₃ => ?_)
    exact p_cmp (s := { s with heap := h₃, toks := tk₃ }) h.1.1.1.2 R₃ (by have := hA.units; exact o30 this) hy hz hs₃ fun b q => wpAny_truthy_bool (Pst.up ((e₁.trans e₂).trans e₃) (Pst.intro (s := { s with heap := h₃, toks := tk₃ }) (tk := tk₃) rfl R₃ q))
end Mine
end
section
open PySem PySem.Calls PySem.W PyProof.Rows PySem.Spec
set_option maxRecDepth 100000
namespace Mine
variable {cx : Cx} {n : Nat} {Φ : Phi}
theorem base_of {mc : MC} {e : E} {o : Expr} {name : Str} {env : Env} (h : mE mc e o = true) : attributeBase o name env (eval o env) = eval o env := by
  cases o with
  | Call f args kw pos =>
    cases f with
    | Name x p =>
      cases args with
      | nil =>
        cases e <;> exact absurd h Bool.false_ne_true
      | cons => rfl
    | _ => rfl
  | _ => rfl
theorem sE_bitlen {a : E} (ha : SE cx n Φ a) : SE cx n Φ (.bitlen a) := by
  intro fi mc pe l H Q A s Er h F hA R L hs
  apply i_mE_bitlen h
  intro _ _ _ _ h
  simp only [Bool.and_eq_true, beq_iff_eq] at h
  obtain ⟨⟨rfl, h1⟩, h2⟩ := h
  refine wpAny_Call_method (T := "int") (id := "int.bit_length") (base_of h1) rfl (by rw [beq_iff_eq]; exact h2) PySem.F.plainAttrs_int PyProof.Rows.slot_int_bit_length PyProof.Rows.type_int_bit_length
    (wp_then (ha _ _ _ _ _ _ _ _ _ h1 F hA R L hs) fun x v H₁ h₁ tk hx R₁ e₁ hs₁ => ?_)
  replace hs₁ := asI_iff.mp hs₁
  obtain ⟨i, rfl, q⟩ := hs₁
  cases hx
  refine ⟨typeIs_int _ _ _, (fun _ e => by cases e), callWith_method0 ?_⟩
  exact wp_up (tk := tk) e₁ (call_int_bit_length (Pst.intro (s := { s with heap := h₁, toks := tk }) (.int _ _) R₁ q))
theorem rg_new {H : AH} {s : Shared} {Q : Int → Int → Int → AH → Prop} {lo hi st : Int} {t u w : Tok} {tk : Nat} {H₁ : AH} {h₁ : Heap} (R₁ : HR cx H₁ h₁) (e₁ : Ext NoX H s.heap H₁ h₁) (q : Q lo hi st H₁) :
    RgP cx H s Q (.ref h₁.objs.size) { s with heap := h₁.push { cls := .type "range", data := .fields #[.int lo t, .int hi u, .int st w] }, toks := tk } := by
  obtain ⟨R₂, e₂⟩ := R₁.grow (h' := h₁.push { cls := .type "range", data := .fields #[.int lo t, .int hi u, .int st w] }) fun b o e => Heap.get?_push_of_some _ e
  exact ⟨lo, hi, st, H₁, _, tk, _, t, u, w, rfl, rfl, Heap.get?_push_size _ rfl, R₂, e₁.trans e₂, q⟩
theorem sR_r1 (B : BOk cx) {a : E} (ha : SE cx n Φ a) : SR cx n Φ (.r1 a) := by
  intro fi mc pe l H Q A s Er h F hA R L hs
  apply i_mR_r1 h
  intro _ _ _ _ h
  simp only [Bool.and_eq_true] at h
  refine blt1t B ha h.1 h.2 (by simp) PyProof.Rows.Boot.«range» F hA R L hs fun x v H₁ h₁ tk hx R₁ e₁ hs₁ => ?_
  replace hs₁ := asI_iff.mp hs₁
  obtain ⟨i, rfl, q⟩ := hs₁
  cases hx
  exact call_range_1 (rg_new R₁ e₁ q)
theorem sR_r2 (B : BOk cx) {a b : E} (ha : SE cx n Φ a) (hb : SE cx n Φ b) : SR cx n Φ (.r2 a b) := by
  intro fi mc pe l H Q A s Er h F hA R L hs
  apply i_mR_r2 h
  intro _ _ _ _ _ h
  simp only [Bool.and_eq_true] at h
  refine Call_Name (p_blt B F R h.1.1 (by simp) PyProof.Rows.Boot.«range» ?_)
  refine PySem.callWith_type (by rw [starEach_cons h.1.2, starEach_cons h.2]; rfl) (ea_of h.1.2 ?_)
  refine sp2 (Q₂ := fun x y H₂ => asI x fun i => asI y fun j => rangeOk i j 1 ∧ Q i j 1 H₂) ha hb h.1.2 h.2 F hA R L hs (fun _ _ q => q) fun x y v w H₁ h₁ tk hx hy R₁ e₁ hs₁ => ?_
  replace hs₁ := asI_iff.mp hs₁
  obtain ⟨i, rfl, hs₁⟩ := hs₁
  replace hs₁ := asI_iff.mp hs₁
  obtain ⟨j, rfl, q⟩ := hs₁
  cases hx; cases hy
  exact call_range_2 (rg_new R₁ e₁ q)
theorem sR_r3 (B : BOk cx) {a b c : E} (ha : SE cx n Φ a) (hb : SE cx n Φ b) (hc : SE cx n Φ c) : SR cx n Φ (.r3 a b c) := by
  intro fi mc pe l H Q A s Er h F hA R L hs
  apply i_mR_r3 h
  intro _ _ _ _ _ _ h
  simp only [Bool.and_eq_true] at h
  refine Call_Name (p_blt B F R h.1.1.1 (by simp) PyProof.Rows.Boot.«range» ?_)
  refine PySem.callWith_type (by rw [starEach_cons h.1.1.2, starEach_cons h.1.2, starEach_cons h.2]; rfl) (ea_of h.1.1.2 ?_)
  rw [starEach_cons h.1.1.2, starEach_cons h.1.2, starEach_cons h.2]
  refine Calls.spliced_cons (wp_then (ha _ _ _ _ _ _ _ _ _ h.1.1.2 F hA R L hs) fun x v H₁ h₁ tk hx R₁ e₁ hs₁ => ?_)
  refine Calls.spliced_cons (wp_then (s := { s with heap := h₁, toks := tk }) (hb _ _ _ _ _ _ _ _ _ h.1.2 F hA R₁ (L.ext R e₁) hs₁) fun y w H₂ h₂ tk₂ hy R₂ e₂ hs₂ => ?_)
  refine Calls.spliced_cons (wp_then (s := { s with heap := h₂, toks := tk₂ }) (hc _ _ _ _ _ _ _ _ _ h.2 F hA R₂ (L.ext R (e₁.trans e₂)) hs₂) fun z u H₃ h₃ tk₃ hz R₃ e₃ hs₃ => Calls.spliced_nil ?_)
  replace hs₃ := asI_iff.mp hs₃
  obtain ⟨i, rfl, hs₃⟩ := hs₃
  replace hs₃ := asI_iff.mp hs₃
  obtain ⟨j, rfl, hs₃⟩ := hs₃
  replace hs₃ := asI_iff.mp hs₃
  obtain ⟨k, rfl, ok, q⟩ := hs₃
  cases hx; cases hy; cases hz
  refine call_range_3 ok.1 (rg_new R₃ ((e₁.trans e₂).trans e₃) ⟨ok, q⟩) (.inl (PyProof.noPylong_of_log2 ?_))
  have h1 : k.natAbs < 2 ^ 40 := ok.2.1
  have h2 := (Nat.log2_lt (k := 40) (show k.natAbs ≠ 0 by have := ok.1; exact o31 this)).mpr h1
  exact o32 h2
theorem p_store {fi : FI} {mc : MC} {l : Loc} {i : Nat} {x : Str} {v : V} {w : Value} {H : AH} {A : Around} {s : Shared} {Er} {P : Unit → Shared → Prop} (F : FOk cx fi mc) (R : HR cx H s.heap) (L : LR cx fi l s.heap)
    (hx : mc.isVar i x = true) (hw : VR cx.fa v w) (k : ∀ h' tk, HR cx H h' → LR cx fi (l.set i (some v)) h' → Ext (own1 fi i) H s.heap H h' → P () { s with heap := h', toks := tk }) :
    wpAny (model cx.prog cx.w) A (storeName fi.env x w) P Er s := by
  unfold MC.isVar at hx
  rw [Bool.and_eq_true, beq_iff_eq] at hx
  obtain ⟨h1, -⟩ := hx
  obtain ⟨a, h3, h4⟩ := F.var i x h1
  have hset : ∀ j : Nat, j ≠ i → (l.set i (some v)).getD j none = l.getD j none := fun j hj => by simp [List.getD, List.getElem?_set_ne (Ne.symm hj)]
  have hself : OR cx.fa ((l.set i (some v)).getD i none) (some w) := by
    by_cases hi : i < l.length
    · simp [List.getD, hi]; exact hw
    · have : (l.set i (some v)).getD i none = none := by
        rw [List.set_eq_of_length_le (Nat.le_of_not_lt hi), List.getD, List.getElem?_eq_none (Nat.le_of_not_lt hi)]; rfl
      rw [this]; trivial
  have same : ∀ {h' : Heap} {b : Nat}, own1 fi i b → Heap.SameBut b s.heap h' → (∃ o, h'.get? b = some o) → HR cx H h' ∧ Ext (own1 fi i) H s.heap H h' := fun {h' b} hb hs hb' => by
    have hn := L.notIn R hb.own
    have hB : cx.B.get? b = none := by
      rcases hb.own with rfl | ⟨j, y, hj⟩
      · exact L.lfr
      · exact L.cfr j y b hj
    refine ⟨⟨fun c o e => ?_, fun c ob e => ?_, R.frs⟩, ⟨fun c o e n nx => ?_, fun c e => .inl e, fun c e => ?_⟩⟩
    · exact (hs.2 c fun q => by rw [q, hB] at e; cases e).trans (R.base c o e)
    · exact (R.obs c ob e).at fun o ho => (hs.2 c fun q => by rw [q, hn] at e; cases e).trans ho
    · exact (hs.2 c fun q => nx (q ▸ hb)).trans e
    · by_cases q : c = b
      · subst q; obtain ⟨o, ho⟩ := hb'; rw [ho]; simp
      · rw [hs.2 c q]; exact e
  obtain ⟨m, hn, hm⟩ := L.ns
  rcases h4 with rfl | ⟨c, rfl⟩
  · refine wpAny_storeName_local (F.loc i x h3) hn (fun h' hn' hs => ?_) (by rw [F.kind]; rfl)
    obtain ⟨R', e'⟩ := same (.inl ⟨⟨x, h3⟩, rfl⟩) hs (by obtain ⟨o, _, _, ho, _⟩ := hn'; exact ⟨o, ho⟩)
    refine k h' _ R' ⟨⟨_, hn', fun j y hj => ?_⟩, fun j y c hj => ?_, L.lfr, L.cfr, by simpa using L.len⟩ e'
    · by_cases hy : y = x
      · subst hy
        have := F.injL j i y hj h3
        subst this
        simp only [if_true]; exact hself
      · have hji : j ≠ i := fun q => by subst q; rw [h3] at hj; cases hj; exact hy rfl
        simp only [hy, if_false, hset j hji]
        exact hm j y hj
    · obtain ⟨z, hc, hz⟩ := L.cells j y c hj
      have hji : j ≠ i := fun q => by subst q; rw [h3] at hj; cases hj
      refine ⟨z, hc.sameBut hs fun q => ?_, by rw [hset j hji]; exact hz⟩
      obtain ⟨o, es, ep, ho, hd, _⟩ := hn
      obtain ⟨o', ho', hd'⟩ := hc
      rw [q, ho] at ho'; cases ho'; rw [hd] at hd'; cases hd'
  · obtain ⟨v₀, hc, -⟩ := L.cells i x c h3
    obtain ⟨hk, hcl⟩ := F.cell i x c h3
    have hcL : c ≠ fi.env.locals := fun q => by
      obtain ⟨o, es, ep, ho, hd, _⟩ := hn
      obtain ⟨o', ho', hd'⟩ := hc
      rw [q, ho] at ho'; cases ho'; rw [hd] at hd'; cases hd'
    have fin : ∀ h', h'.IsCell c (some w) → Heap.SameBut c s.heap h' → P () { s with heap := h' } := fun h' hc' hs => by
      obtain ⟨R', e'⟩ := same (.inr ⟨x, h3⟩) hs (by obtain ⟨o, ho, _⟩ := hc'; exact ⟨o, ho⟩)
      refine k h' s.toks R' ⟨⟨m, hn.sameBut hs (Ne.symm hcL), fun j y hj => ?_⟩, fun j y c' hj => ?_, L.lfr, L.cfr, by simpa using L.len⟩ e'
      · have hji : j ≠ i := fun q => by subst q; rw [h3] at hj; cases hj
        rw [hset j hji]; exact hm j y hj
      · by_cases hcc : c' = c
        · subst hcc
          have := F.injC j i y x c' hj h3
          subst this
          exact ⟨_, hc', hself⟩
        · obtain ⟨z, hz, ho⟩ := L.cells j y c' hj
          have hji : j ≠ i := fun q => by subst q; rw [h3] at hj; cases hj; exact hcc rfl
          exact ⟨z, hz.sameBut hs hcc, by rw [hset j hji]; exact ho⟩
    rcases hk with hk | ⟨hk, -⟩
    · exact wpAny_storeName_cell F.kind hk hcl hc fin
    · unfold storeName
      simp only [hk, F.kind]
      exact wpAny_bind (wpAny_cellOf hcl (wpAny_cellSet hc fin))
end Mine
end
section
open PySem PySem.Calls PySem.W PyProof.Rows PySem.Spec
set_option maxRecDepth 100000
namespace Mine
variable {cx : Cx} {n : Nat} {Φ : Phi}
noncomputable def FlR (fa : Nat → Addr) : Fl → Flow → Prop
  | .next, .next => True
  | .ret v, .ret w => VR fa v w
  | _, _ => False
noncomputable def SPst (cx : Cx) (fi : FI) (H : AH) (s : Shared) (K : KQ) (f : Flow) (s' : Shared) : Prop :=
  ∃ fl l' H' h' tk, s' = { s with heap := h', toks := tk } ∧ FlR cx.fa fl f ∧ HR cx H' h' ∧ LR cx fi l' h' ∧ Ext (own fi) H s.heap H' h' ∧ K fl l' H'
theorem SPst.up {fi : FI} {H H₁ : AH} {s : Shared} {h₁ : Heap} {tk : Nat} {K : KQ} {f : Flow} {s' : Shared} (e : Ext (own fi) H s.heap H₁ h₁) (p : SPst cx fi H₁ { s with heap := h₁, toks := tk } K f s') : SPst cx fi H s K f s' := by
  obtain ⟨fl, l', H', h', tk', rfl, hf, R, L, e', q⟩ := p
  exact ⟨fl, l', H', h', tk', rfl, hf, R, L, e.trans e', q⟩
theorem SPst.next {fi : FI} {l : Loc} {H H₁ : AH} {s : Shared} {h₁ : Heap} {tk : Nat} {K : KQ} (R : HR cx H₁ h₁) (L : LR cx fi l h₁) (e : Ext (own fi) H s.heap H₁ h₁) (q : K .next l H₁) : SPst cx fi H s K .next { s with heap := h₁, toks := tk } :=
  ⟨.next, l, H₁, h₁, tk, rfl, trivial, R, L, e, q⟩
noncomputable def SS (cx : Cx) (n : Nat) (Φ : Phi) (st : S) : Prop := ∀ (fi : FI) (mc : MC) (ps : Stmt) (l : Loc) (H : AH) (K : KQ) (A : Around) (s : Shared) Er,
  mS mc st ps = true → FOk cx fi mc → AOk n A → HR cx H s.heap → LR cx fi l s.heap → execS Φ st l H K → wpAny (model cx.prog cx.w) A (exec ps fi.env) (SPst cx fi H s K) Er s
noncomputable def SSs (cx : Cx) (n : Nat) (Φ : Phi) (st : Ss) : Prop := ∀ (fi : FI) (mc : MC) (ps : List Stmt) (l : Loc) (H : AH) (K : KQ) (A : Around) (s : Shared) Er,
  mSs mc st ps = true → FOk cx fi mc → AOk n A → HR cx H s.heap → LR cx fi l s.heap → execsS Φ st l H K → wpAny (model cx.prog cx.w) A (execs ps fi.env) (SPst cx fi H s K) Er s
theorem ws_up {fi : FI} {M : Model} {A : Around} {H H₁ : AH} {s s' : Shared} {h₁ : Heap} {tk : Nat} {t : Sem Flow} {K : KQ} {Er : Value → Shared → Prop} (e : Ext (own fi) H s.heap H₁ h₁)
    (h : wpAny M A t (SPst cx fi H₁ { s with heap := h₁, toks := tk } K) Er s') : wpAny M A t (SPst cx fi H s K) Er s' := wpAny_mono h (fun _ _ p => p.up e) fun _ _ e => e
theorem notComp {v : Expr} {t : Option Expr} {line : Nat} {env : Env} (h : isComp v = false) (_ : t ≠ none) : swapsWith v t line env = pure false := by
  cases v <;> first | rfl | cases h
theorem sS_asg {i : Nat} {e : E} (he : SE cx n Φ e) : ∀ (fi : FI) (mc : MC) (x : Str) (p : Pos) (v : Expr) (pos : Pos) (l : Loc) (H : AH) (K : KQ) (A : Around) (s : Shared) Er,
    mc.isVar i x = true → mE mc e v = true → isComp v = false → FOk cx fi mc → AOk n A → HR cx H s.heap → LR cx fi l s.heap → execS Φ (.asg i e) l H K → wpAny (model cx.prog cx.w) A (exec (.Assign [.Name x p] v pos) fi.env) (SPst cx fi H s K) Er s := by
  intro fi mc x p v pos l H K A s Er hx hv hc F hA R L hs
  refine wpAny_Assign_Name (wp_then (he _ _ _ _ _ _ _ _ _ hv F hA R L hs) fun y w H₁ h₁ tk hy R₁ e₁ hs₁ => ?_) (notComp hc (by simp))
  exact p_store (s := { s with heap := h₁, toks := tk }) F R₁ (L.ext R e₁) hx hy fun h' tk' R' L' e' => SPst.next R' L' (e₁.weak.trans (e'.mono fun _ h => h.own)) hs₁
theorem p_names {fi : FI} {mc : MC} {A : Around} {Er : Value → Shared → Prop} (F : FOk cx fi mc) : ∀ (ps : List (Nat × Str)) (vs : List V) (ws : List Value) (l : Loc) (H : AH) (s : Shared) (P : Unit → Shared → Prop),
    (∀ p ∈ ps, mc.isVar p.1 p.2 = true) → Are cx.fa vs ws → ps.length = vs.length → HR cx H s.heap → LR cx fi l s.heap →
    (∀ h' tk, HR cx H h' → LR cx fi (setMany (ps.map (·.1)) vs l) h' → Ext (own fi) H s.heap H h' → P () { s with heap := h', toks := tk }) →
    wpAny (model cx.prog cx.w) A (assignInOrder (ps.map fun p => bindName fi.env p.2) ws) P Er s
  | [], [], _, l, H, s, P, _, .nil, _, R, L, k => assignInOrder_nil (k s.heap s.toks R L Ext.refl)
  | p :: ps, v :: vs, _, l, H, s, P, hp, .cons hv hr, hl, R, L, k => by
    refine assignInOrder_cons (wpAny_bindName (p_store F R L (hp p (.head _)) hv fun h' tk R' L' e' => ?_))
    refine p_names F ps vs _ _ H { s with heap := h', toks := tk } P (fun q hq => hp q (.tail _ hq)) hr (by simpa using hl) R' L' fun h'' tk' R'' L'' e'' => ?_
    exact k h'' tk' R'' L'' ((e'.mono fun _ h => h.own).trans e'')
  | [], _ :: _, _, _, _, _, _, _, _, hl, _, _, _ => by simp at hl
  | _ :: _, [], _, _, _, _, _, _, _, hl, _, _, _ => by simp at hl
noncomputable def nmOf : Expr → Str
  | .Name x _ => x
  | _ => ""
theorem mTs_zip {mc : MC} : ∀ {is : List Nat} {ts : List Expr}, mTs mc is ts = true → is.length = ts.length ∧ (∀ p ∈ is.zip (ts.map nmOf), mc.isVar p.1 p.2 = true) ∧ (∀ t ∈ ts, ∃ x p, t = .Name x p)
  | [], [], _ => ⟨rfl, by simp, by simp⟩
  | i :: is, t :: ts, h => by
    revert h
    intro h0
    apply i_mTs (t := t) h0
    intro x p h
    rw [Bool.and_eq_true] at h
    obtain ⟨h1, h2, h3⟩ := mTs_zip h.2
    refine ⟨by simp [h1], fun p hp => ?_, fun t ht => ?_⟩
    · simp only [List.map_cons, List.zip_cons_cons, List.mem_cons] at hp
      rcases hp with rfl | hp
      · exact h.1
      · exact h2 p hp
    · rcases List.mem_cons.mp ht with rfl | ht
      · exact ⟨_, _, rfl⟩
      · exact h3 t ht
  | [], _ :: _, h => absurd h Bool.false_ne_true
  | _ :: _, [], h => absurd h Bool.false_ne_true
theorem each_names {env : Env} : ∀ {ts : List Expr}, (∀ t ∈ ts, ∃ x p, t = .Name x p) → (assignEach ts env).length = ts.length ∧ (assignEach ts env).findIdx? (·.1) = none
  | [], _ => ⟨rfl, rfl⟩
  | t :: ts, h => by
    obtain ⟨x, p, rfl⟩ := h t (.head _)
    obtain ⟨h1, h2⟩ := each_names (ts := ts) (env := env) fun t ht => h t (.tail _ ht)
    have e : assignEach (.Name x p :: ts) env = (false, assign (.Name x p) env) :: assignEach ts env := rfl
    rw [e]
    exact ⟨by simp [h1], by rw [List.findIdx?_cons]; simp [h2]⟩
theorem p_targets {fi : FI} {mc : MC} {A : Around} {Er : Value → Shared → Prop} (F : FOk cx fi mc) : ∀ (is : List Nat) (ts : List Expr) (vs : List V) (ws : List Value) (l : Loc) (H : AH) (s : Shared) (P : Unit → Shared → Prop),
    mTs mc is ts = true → Are cx.fa vs ws → vs.length = is.length → HR cx H s.heap → LR cx fi l s.heap →
    (∀ h' tk, HR cx H h' → LR cx fi (setMany is vs l) h' → Ext (ownS fi is) H s.heap H h' → P () { s with heap := h', toks := tk }) →
    wpAny (model cx.prog cx.w) A (assignInOrder ((assignEach ts fi.env).map (·.2)) ws) P Er s
  | [], [], [], _, l, H, s, P, _, .nil, _, R, L, k => assignInOrder_nil (k s.heap s.toks R L Ext.refl)
  | i :: is, t :: ts, v :: vs, _, l, H, s, P, hm, .cons hv hr, hl, R, L, k => by
    have hm0 := hm
    apply i_mTs (t := t) hm0
    intro x p hm
    rw [Bool.and_eq_true] at hm
    show wpAny _ _ (assignInOrder (assign (.Name x p) fi.env :: (assignEach ts fi.env).map (·.2)) _) _ _ _
    refine assignInOrder_cons (wpAny_assign_Name (p_store F R L hm.1 hv fun h' tk R' L' e' => ?_))
    refine p_targets F is ts vs _ _ H { s with heap := h', toks := tk } P hm.2 hr (by simpa using hl) R' L' fun h'' tk' R'' L'' e'' => ?_
    exact k h'' tk' R'' L'' ((e'.mono fun _ h => ⟨_, .head _, h⟩).trans (e''.mono fun _ ⟨j, hj, h⟩ => ⟨j, .tail _ hj, h⟩))
  | [], _ :: _, _, _, _, _, _, _, hm, _, _, _, _, _ => absurd hm Bool.false_ne_true
  | _ :: _, [], _, _, _, _, _, _, hm, _, _, _, _, _ => absurd hm Bool.false_ne_true
  | [], [], _ :: _, _, _, _, _, _, _, _, hl, _, _, _ => by simp at hl
  | _ :: _, _ :: _, [], _, _, _, _, _, _, _, hl, _, _, _ => by simp at hl
theorem p_assignTup {fi : FI} {mc : MC} {A : Around} {Er : Value → Shared → Prop} {is : List Nat} {ts : List Expr} {k : Nat} {pos : Pos} {vs : List V} {ws : List Value} {l : Loc} {H : AH} {s : Shared} {P : Unit → Shared → Prop} {t : Addr} (F : FOk cx fi mc) (hA : AOk n A)
    (hm : mTs mc is ts = true) (ht : s.heap.IsTuple t ws.toArray) (hv : Are cx.fa vs ws) (hl : vs.length = is.length) (R : HR cx H s.heap) (L : LR cx fi l s.heap)
    (q : ∀ h' tk, HR cx H h' → LR cx fi (setMany is vs l) h' → Ext (ownS fi is) H s.heap H h' → P () { s with heap := h', toks := tk }) :
    wpAny (model cx.prog cx.w) A (assign (.Tuple ts k pos) fi.env (.ref t)) P Er s := by
  obtain ⟨z1, -, z3⟩ := mTs_zip hm
  obtain ⟨e1, e2⟩ := each_names (env := fi.env) z3
  refine wpAny_assign_Tuple hA.hh ht (by rw [e1, List.size_toArray, hv.length]; exact o33 hl z1) e2 fun h' hx => ?_
  obtain ⟨R', e'⟩ := R.grow fun b o e => hx b o (fun q => Nat.lt_irrefl _ (q ▸ Heap.lt_size e)) e
  refine p_targets (s := { s with heap := h' }) F is ts vs ws l H P hm hv hl R' (L.ext R e') fun h'' tk R'' L'' e'' => q h'' tk R'' L'' (e'.weak.trans e'')
theorem sS_asgT {is : List Nat} {e : E} (he : SE cx n Φ e) : SS cx n Φ (.asgT is e) := by
  intro fi mc ps l H K A s Er h F hA R L hs
  apply i_mS_asgT h
  intro _ _ _ _ _ _ _ _ h
  simp only [Bool.and_eq_true] at h
  refine Assign_Tuple (wp_then (he _ _ _ _ _ _ _ _ _ h.2 F hA R L hs) fun y w H₁ h₁ tk hy R₁ e₁ hs₁ => ?_) rfl rfl
  replace hs₁ := asR_iff.mp hs₁
  obtain ⟨r, rfl, hs₁⟩ := hs₁
  replace hs₁ := asT_iff.mp hs₁
  obtain ⟨vs, hr, hl, q⟩ := hs₁
  cases hy
  obtain ⟨ws, hv, ht⟩ := R₁.obs r _ hr
  exact p_assignTup (s := { s with heap := h₁, toks := tk }) F hA h.1 ht hv hl R₁ (L.ext R e₁) fun h' tk' R' L' e' => SPst.next R' L' (e₁.weak.trans (e'.mono fun _ h => h.own)) q
theorem filterMap_all {g : Expr → Option Str} (hg : ∀ x p, g (.Name x p) = some x ∨ g (.Name x p) = none) : ∀ {ts : List Expr}, (∀ t ∈ ts, ∃ x p, t = .Name x p) → (ts.filterMap g).length = ts.length → ts.filterMap g = ts.map nmOf
  | [], _, _ => rfl
  | t :: ts, h, hl => by
    obtain ⟨x, p, rfl⟩ := h t (.head _)
    have hle := List.length_filterMap_le g ts
    rcases hg x p with e | e
    · rw [List.filterMap_cons_some e] at hl ⊢
      rw [filterMap_all hg (fun t ht => h t (.tail _ ht)) (by simpa using hl)]; rfl
    · rw [List.filterMap_cons_none e] at hl
      simp at hl; exact (o34 hl hle).elim
theorem swapped {env : Env} {ts vs : List Expr} {k k' : Nat} {p p' : Pos} (hts : ∀ t ∈ ts, ∃ x p, t = .Name x p) (hc : vs.all (constantsAlone 8) = false) :
    swappedStores [.Tuple ts k p] (.Tuple vs k' p') env = pure none ∨ swappedStores [.Tuple ts k p] (.Tuple vs k' p') env = pure (some (ts.map nmOf)) := by
  unfold swappedStores
  simp only [hc]
  split
  · exact .inl rfl
  split
  · exact .inl rfl
  split
  · exact .inl rfl
  · rename_i h3
    split
    · exact .inl rfl
    · refine .inr ?_
      show pure (some _) = pure (some _)
      congr 2
      refine filterMap_all (fun x q => ?_) hts ?_
      · dsimp only
        split
        · exact .inl rfl
        · exact .inr rfl
      · simp only [Bool.or_eq_true, bne_iff_ne, not_or, Decidable.not_not] at h3
        exact h3.1
theorem setMany_rev {is : List Nat} {vs : List V} {l : Loc} (h2 : is.length = 2 ∨ is.length = 3) (hl : vs.length = is.length) (hn : is.Nodup) : setMany is.reverse vs.reverse l = setMany is vs l := by
  rcases h2 with h2 | h2
  · match is, vs, h2, hl with
    | [a, b], [x, y], _, _ =>
      simp at hn
      simp only [List.reverse_cons, List.reverse_nil, List.nil_append, List.cons_append, setMany]
      rw [List.set_comm _ _ (Ne.symm hn)]
  · match is, vs, h2, hl with
    | [a, b, c], [x, y, z], _, _ =>
      simp at hn
      simp only [List.reverse_cons, List.reverse_nil, List.nil_append, List.cons_append, setMany]
      rw [List.set_comm _ _ (Ne.symm hn.2), List.set_comm _ _ (Ne.symm hn.1.2), List.set_comm _ _ (Ne.symm hn.1.1)]
theorem sS_asgTT {is : List Nat} {es : Es} (hes : SEs cx n Φ es) : SS cx n Φ (.asgTT is es) := by
  intro fi mc ps l H K A s Er h F hA R L hs
  apply i_mS_asgTT h
  intro _ _ _ _ _ _ _ h
  rename_i ts k p vs k' p' p''
  simp only [Bool.and_eq_true, Bool.not_eq_true', Bool.or_eq_true, beq_iff_eq, decide_eq_true_eq] at h
  obtain ⟨⟨⟨⟨h1, h2⟩, h3⟩, h4⟩, h5⟩ := h
  obtain ⟨z1, z2, z3⟩ := mTs_zip h1
  have val : wpAny (model cx.prog cx.w) A (eval (.Tuple vs k' p') fi.env) (fun v s₁ => ∃ t xs ws H₁ h₁ tk, v = .ref t ∧ s₁ = { s with heap := h₁, toks := tk } ∧ Are cx.fa xs ws ∧ xs.length = is.length ∧ HR cx H₁ h₁ ∧ Ext NoX H s.heap H₁ h₁ ∧ K .next (setMany is xs l) H₁ ∧ h₁.IsTuple t ws.toArray) Er s := by
    refine Tuple_ (wp_then (hes _ _ _ _ _ _ _ _ _ _ h2 F hA R L hs) fun xs ws H₁ h₁ tk hx R₁ e₁ hs₁ => ?_)
    obtain ⟨hl, q⟩ := hs₁
    refine wpAny_newTuple ?_ (by rw [hx.length, hl, sizeLine_eq]; exact o35 h3)
    obtain ⟨R₂, e₂⟩ := R₁.grow (h' := h₁.push { cls := .type "tuple", data := .seq ws.toArray }) fun b o e => Heap.get?_push_of_some _ e
    exact ⟨_, xs, ws, H₁, _, tk, rfl, rfl, hx, hl, R₂, e₁.trans e₂, q, _, Heap.get?_push_size _ rfl, rfl, _, rfl⟩
  rcases swapped (env := fi.env) (k := k) (k' := k') (p := p) (p' := p') z3 h5 with hw | hw
  · refine Assign_Tuple (wpAny_mono val (fun v s₁ hv => ?_) fun _ _ e => e) rfl hw
    obtain ⟨t, xs, ws, H₁, h₁, tk, rfl, rfl, hx, hl, R₁, e₁, q, ht⟩ := hv
    exact p_assignTup (s := { s with heap := h₁, toks := tk }) F hA h1 ht hx hl R₁ (L.ext R e₁) fun h' tk' R' L' e' => SPst.next R' L' (e₁.weak.trans (e'.mono fun _ h => h.own)) q
  · refine Assign_Tuple_swapped (wpAny_mono val (fun v s₁ hv => ?_) fun _ _ e => e) rfl hw
    obtain ⟨t, xs, ws, H₁, h₁, tk, rfl, rfl, hx, hl, R₁, e₁, q, ht⟩ := hv
    have hsz : (ts.map nmOf).length = ws.toArray.size := by rw [List.length_map, List.size_toArray, hx.length]; exact o36 z1 hl
    rw [hsz]
    refine wpAny_unpackItems_tuple (s := { s with heap := h₁, toks := tk }) hA.hh ht fun h' hx' => ?_
    obtain ⟨R', e'⟩ := R₁.grow (h' := h') fun b o e => hx' b o (fun q => Nat.lt_irrefl _ (q ▸ Heap.lt_size e)) e
    have hz : (is.zip (ts.map nmOf)).map (·.1) = is := by rw [List.map_fst_zip]; simp; exact o37 z1
    have hz2 : (is.zip (ts.map nmOf)).map (·.2) = ts.map nmOf := by rw [List.map_snd_zip]; simp; exact o38 z1
    have goal := p_names (A := A) (Er := Er) F (is.zip (ts.map nmOf)).reverse xs.reverse ws.reverse l H₁ { s with heap := h', toks := tk } (fun _ => SPst cx fi H s K .next)
      (fun q hq => z2 q (List.mem_reverse.mp hq)) hx.reverse (by simp; exact o39 z1 hl) R' (L.ext R (e₁.trans e')) fun h'' tk'' R'' L'' e'' => by
        rw [List.map_reverse, hz, setMany_rev h3 hl h4] at L''
        exact SPst.next R'' L'' ((e₁.trans e').weak.trans e'') q
    rw [List.map_reverse] at goal
    have e3 : (is.zip (ts.map nmOf)).map (fun p => bindName fi.env p.2) = (ts.map nmOf).map fun x => bindName fi.env x := by
      conv => rhs; rw [← hz2]
      rw [List.map_map]; rfl
    rw [e3] at goal
    simpa using goal
end Mine
end
section
open PySem PySem.Calls PySem.W PyProof.Rows PySem.Spec
set_option maxRecDepth 100000
namespace Mine
variable {cx : Cx} {n : Nat} {Φ : Phi}
theorem sSs_nil : SSs cx n Φ .nil := by
  intro fi mc ps l H K A s Er h F hA R L hs
  cases ps with
  | nil => exact wpAny_execs_nil (SPst.next (tk := s.toks) R L Ext.refl hs)
  | cons => exact absurd h Bool.false_ne_true
theorem sSs_cons {a : S} {r : Ss} (ha : SS cx n Φ a) (hr : SSs cx n Φ r) : SSs cx n Φ (.cons a r) := by
  intro fi mc ps l H K A s Er h F hA R L hs
  cases ps with
  | nil => exact absurd h Bool.false_ne_true
  | cons p ps =>
    replace h := Bool.and_eq_true_iff.mp h
    refine wpAny_execs_cons (wpAny_mono (ha _ _ _ _ _ _ _ _ _ h.1 F hA R L hs) (fun f s' p => ?_) fun _ _ e => e)
    obtain ⟨fl, l', H', h', tk, rfl, hf, R', L', e', q⟩ := p
    cases fl with
    | next =>
      cases f <;> first | exact hf.elim | skip
      exact ws_up e' (hr _ _ _ _ _ _ _ { s with heap := h', toks := tk } _ h.2 F hA R' L' q)
    | ret v =>
      cases f <;> first | exact hf.elim | skip
      exact ⟨.ret v, l', H', h', tk, rfl, hf, R', L', e', q⟩
theorem sS_setIdx {a i v : E} (ha : SE cx n Φ a) (hi : SE cx n Φ i) (hv : SE cx n Φ v) : SS cx n Φ (.setIdx a i v) := by
  intro fi mc ps l H K A s Er h F hA R L hs
  apply i_mS_setIdx h
  intro _ _ _ _ _ h
  simp only [Bool.and_eq_true, Bool.not_eq_true'] at h
  refine wpAny_Assign_Subscript (wp_then (hv _ _ _ _ _ _ _ _ _ h.1.1.1 F hA R L hs) fun z w₀ H₁ h₁ tk hz R₁ e₁ hs₁ => ?_) (notComp h.2 (by simp))
  refine wp_then (s := { s with heap := h₁, toks := tk }) (ha _ _ _ _ _ _ _ _ _ h.1.1.2 F hA R₁ (L.ext R e₁) hs₁) fun x w₁ H₂ h₂ tk₂ hx R₂ e₂ hs₂ => ?_
  refine wp_then (s := { s with heap := h₂, toks := tk₂ }) (hi _ _ _ _ _ _ _ _ _ h.1.2 F hA R₂ (L.ext R (e₁.trans e₂)) hs₂) fun y w₂ H₃ h₃ tk₃ hy R₃ e₃ hs₃ => ?_
  replace hs₃ := asR_iff.mp hs₃
  obtain ⟨r, rfl, hs₃⟩ := hs₃
  replace hs₃ := asI_iff.mp hs₃
  obtain ⟨k, rfl, hs₃⟩ := hs₃
  replace hs₃ := asL_iff.mp hs₃
  obtain ⟨xs, hr, hsz, h0, hlt, q⟩ := hs₃
  cases hx; cases hy
  refine p_setItem (s := { s with heap := h₃, toks := tk₃ }) R₃ hr hsz h0 hlt hz fun h' R' e' => ?_
  exact SPst.next (tk := tk₃) R' (L.ext R (((e₁.trans e₂).trans e₃).trans e')) (((e₁.trans e₂).trans e₃).trans e').weak q
theorem sS_aug {i : Nat} {op : Op} {e : E} (he : SE cx n Φ e) : SS cx n Φ (.aug i op e) := by
  intro fi mc ps l H K A s Er h F hA R L hs
  apply i_mS_aug h
  intro _ _ _ _ _ h
  rename_i x p o v p'
  simp only [Bool.and_eq_true] at h
  replace hs := varS_iff.mp hs
  obtain ⟨u, hk, hs⟩ := hs
  replace hs := asI_iff.mp hs
  obtain ⟨k, rfl, hs⟩ := hs
  have ld' := p_load (A := A) (Er := Er) (Q := fun v H' => v = V.int k ∧ H' = H) F R L h.1.1 hk ⟨rfl, rfl⟩
  refine wpAny_AugAssign_Name (wp_then ld' fun y w H₀ h₀ tk₀ hy R₀ e₀ hq => ?_)
  obtain ⟨rfl, rfl⟩ := hq
  cases hy
  refine wp_then (s := { s with heap := h₀, toks := tk₀ }) (he _ _ _ _ _ _ _ _ _ h.2 F hA R₀ (L.ext R e₀) hs) fun y w H₁ h₁ tk hy R₁ e₁ hs₁ => ?_
  replace hs₁ := asI_iff.mp hs₁
  obtain ⟨j, rfl, ok, q⟩ := hs₁
  cases hy
  have fin : ∀ {z : Int} {tk' : Nat} {t : Tok}, z = opV op k j → wpAny (model cx.prog cx.w) A (storeName fi.env x (.int z t)) (fun _ => SPst cx fi H₀ s K .next) Er { s with heap := h₁, toks := tk' } := fun {z tk' t} hz => by
    subst hz
    exact p_store (s := { s with heap := h₁, toks := tk' }) F R₁ (L.ext R (e₀.trans e₁)) h.1.1 (.int _ _) fun h' tk' R' L' e' => SPst.next R' L' ((e₀.trans e₁).weak.trans (e'.mono fun _ h => h.own)) q
  have h12 := h.1.2
  cases op <;> cases o <;> first | (cases h12; done) | skip
  · exact iadd_int (fin rfl)
  · exact isub_int (fin rfl)
  · exact imul_int (fin rfl) (.of_left (intBits_le ok.1))
  · refine ifloordiv_int (by have := ok.1; exact o7 this) (fin (Int.fdiv_eq_ediv_of_nonneg _ (Int.le_of_lt ok.1))) (.inl (PyProof.noPylong_of_log2 ?_))
    have h1 : j.natAbs < 2 ^ 64 := by have := ok.1; have := ok.2; exact o11 (by assumption) this
    have h2 := (Nat.log2_lt (k := 64) (show j.natAbs ≠ 0 by have := ok.1; exact o12 this)).mpr h1
    exact o13 h2
  · exact imod_int (by have : 0 < j := ok; exact o7 this) (fin (Int.fmod_eq_emod_of_nonneg _ (Int.le_of_lt ok)))
  · exact ilshift_int_small ok.1 (by have := ok.2.1; exact o14 this) ok.2.2 (fin rfl)
  · exact irshift_int ok (fin (Int.fdiv_eq_ediv_of_nonneg _ (Int.le_of_lt (Int.pow_pos (by decide)))))
  · exact iand_int (fin rfl)
  · exact ior_int (fin rfl)
  · exact ipow_int_small ok.1 (by have := ok.2.1; exact o14 this) ok.2.2 (fin rfl)
theorem sS_app {a v : E} (ha : SE cx n Φ a) (hv : SE cx n Φ v) : SS cx n Φ (.app a v) := by
  intro fi mc ps l H K A s Er h F hA R L hs
  apply i_mS_app h
  intro _ _ _ _ _ _ h
  simp only [Bool.and_eq_true, beq_iff_eq] at h
  obtain ⟨⟨⟨rfl, h1⟩, h2⟩, h3⟩ := h
  refine wpAny_Expr (wpAny_Call_method (T := "list") (id := "list.append") (base_of h1) (by rw [starEach_cons h2]; rfl) (by rw [beq_iff_eq]; exact h3) PySem.F.plainAttrs_list PySem.F.slot_list_append PySem.F.type_list_append
    (wp_then (ha _ _ _ _ _ _ _ _ _ h1 F hA R L hs) fun x w H₁ h₁ tk hx R₁ e₁ hs₁ => ?_)) (by unfold interactive; rw [F.kind]; rfl) rfl
  replace hs₁ := asR_iff.mp hs₁
  obtain ⟨r, rfl, hr₀, hs₁⟩ := hs₁
  replace hr₀ := asL_iff.mp hr₀
  obtain ⟨xs, hr, -⟩ := hr₀
  cases hx
  obtain ⟨ws, k, hw, hl⟩ := R₁.obs r _ hr
  refine ⟨hl.isList.typeIs, (fun b e => by cases e; exact ⟨_, hl, rfl⟩), ?_⟩
  rw [starEach_cons h2]
  refine Calls.callWith_builtin rfl (Calls.evalArgs_plain (Calls.spliced_cons (wp_then (s := { s with heap := h₁, toks := tk }) (hv _ _ _ _ _ _ _ _ _ h2 F hA R₁ (L.ext R e₁) hs₁) fun y w H₂ h₂ tk₂ hy R₂ e₂ hs₂ => Calls.spliced_nil ?_)))
  replace hs₂ := asL_iff.mp hs₂
  obtain ⟨xs', hr', hsz, q⟩ := hs₂
  refine p_append (s := { s with heap := h₂, toks := tk₂ }) R₂ hr' hsz hy fun h' R' e' => ?_
  exact SPst.next (tk := tk₂) R' (L.ext R ((e₁.trans e₂).trans e')) ((e₁.trans e₂).trans e').weak q
theorem sS_rever {a : E} (ha : SE cx n Φ a) : SS cx n Φ (.rever a) := by
  intro fi mc ps l H K A s Er h F hA R L hs
  apply i_mS_rever h
  intro _ _ _ _ _ h
  simp only [Bool.and_eq_true, beq_iff_eq] at h
  obtain ⟨⟨rfl, h1⟩, h3⟩ := h
  refine wpAny_Expr (wpAny_Call_method (T := "list") (id := "list.reverse") (base_of h1) rfl (by rw [beq_iff_eq]; exact h3) PySem.F.plainAttrs_list PySem.F.slot_list_reverse PySem.F.type_list_reverse
    (wp_then (ha _ _ _ _ _ _ _ _ _ h1 F hA R L hs) fun x w H₁ h₁ tk hx R₁ e₁ hs₁ => ?_)) (by unfold interactive; rw [F.kind]; rfl) rfl
  replace hs₁ := asR_iff.mp hs₁
  obtain ⟨r, rfl, hs₁⟩ := hs₁
  replace hs₁ := asL_iff.mp hs₁
  obtain ⟨xs, hr, hsz, q⟩ := hs₁
  cases hx
  obtain ⟨ws, k, hw, hl⟩ := R₁.obs r _ hr
  refine ⟨hl.isList.typeIs, (fun b e => by cases e; exact ⟨_, hl, rfl⟩), ?_⟩
  refine p_reverse (s := { s with heap := h₁, toks := tk }) R₁ hr hsz fun h' R' e' => ?_
  exact SPst.next (tk := tk) R' (L.ext R (e₁.trans e')) (e₁.trans e').weak q
theorem sS_ifs {c : C} {t e : Ss} (hc : SC cx n Φ c) (ht : SSs cx n Φ t) (he : SSs cx n Φ e) : SS cx n Φ (.ifs c t e) := by
  intro fi mc ps l H K A s Er h F hA R L hs
  apply i_mS_ifs h
  intro _ _ _ _ h
  simp only [Bool.and_eq_true] at h
  refine wpAny_If (wp_then (hc _ _ _ _ _ _ _ _ _ h.1.1 F hA R L hs) fun x v H₁ h₁ tk hx R₁ e₁ hs₁ => ?_)
  subst hx
  cases x with
  | true => exact ws_up e₁.weak (ht _ _ _ _ _ _ _ { s with heap := h₁, toks := tk } _ h.1.2 F hA R₁ (L.ext R e₁) (hs₁.1 rfl))
  | false => exact ws_up e₁.weak (he _ _ _ _ _ _ _ { s with heap := h₁, toks := tk } _ h.2 F hA R₁ (L.ext R e₁) (hs₁.2 rfl))
theorem sS_ret {e : E} (he : SE cx n Φ e) : SS cx n Φ (.ret e) := by
  intro fi mc ps l H K A s Er h F hA R L hs
  apply i_mS_ret h
  intro _ _ h
  exact wpAny_Return_some (wp_then (he _ _ _ _ _ _ _ _ _ h F hA R L hs) fun x v H₁ h₁ tk hx R₁ e₁ hs₁ => ⟨.ret x, l, H₁, h₁, tk, rfl, hx, R₁, L.ext R e₁, e₁.weak, hs₁⟩)
theorem sS_exp {e : E} (he : SE cx n Φ e) : SS cx n Φ (.exp e) := by
  intro fi mc ps l H K A s Er h F hA R L hs
  apply i_mS_exp h
  intro _ _ _ _ _ h
  exact wpAny_Expr_any (wp_then (he _ _ _ _ _ _ _ _ _ h F hA R L hs) fun x v H₁ h₁ tk hx R₁ e₁ hs₁ => SPst.next R₁ (L.ext R e₁) e₁.weak hs₁) (by unfold interactive; rw [F.kind]; rfl) rfl
theorem sS_bad : SS cx n Φ .bad := by
  intro fi mc ps l H K A s Er h F hA R L hs
  exact hs.elim
theorem sS_whl {c : C} {b : Ss} (hc : SC cx n Φ c) (hb : SSs cx n Φ b) : SS cx n Φ (.whl c b) := by
  intro fi mc ps l H K A s Er h F hA R L hs
  apply i_mS_whl h
  intro _ _ _ h
  simp only [Bool.and_eq_true] at h
  obtain ⟨I, ⟨k, hI⟩, step⟩ := hs
  refine wpAny_While (codeAny_whileLoop (fun k s' => ∃ l' H' h' tk, s' = { s with heap := h', toks := tk } ∧ HR cx H' h' ∧ LR cx fi l' h' ∧ Ext (own fi) H s.heap H' h' ∧ I k l' H') ?_ k ⟨l, H, s.heap, s.toks, rfl, R, L, Ext.refl, hI⟩)
  rintro k s' ⟨l', H', h', tk, rfl, R', L', e', hI'⟩
  refine wp_then (s := { s with heap := h', toks := tk }) (hc _ _ _ _ _ _ _ _ _ h.1 F hA R' L' (step k l' H' hI')) fun x v H₁ h₁ tk₁ hx R₁ e₁ hs₁ => ?_
  subst hx
  cases x with
  | true =>
    refine wpAny_mono (hb _ _ _ _ _ _ _ { s with heap := h₁, toks := tk₁ } _ h.2 F hA R₁ (L'.ext R' e₁) (hs₁.1 rfl)) (fun f s₂ p => ?_) fun _ _ e => e
    obtain ⟨fl, l₂, H₂, h₂, tk₂, rfl, hf, R₂, L₂, e₂, q⟩ := p
    cases fl with
    | next =>
      cases f <;> first | exact hf.elim | skip
      obtain ⟨m, hm, hq⟩ := q
      exact ⟨m, hm, l₂, H₂, h₂, tk₂, rfl, R₂, L₂, (e'.trans e₁.weak).trans e₂, hq⟩
    | ret v =>
      cases f <;> first | exact hf.elim | skip
      exact ⟨.ret v, l₂, H₂, h₂, tk₂, rfl, hf, R₂, L₂, (e'.trans e₁.weak).trans e₂, q⟩
  | false =>
    simp only [Bool.false_eq_true, if_false]
    exact wpAny_execs_nil (SPst.next (tk := tk₁) R₁ (L'.ext R' e₁) (e'.trans e₁.weak) (hs₁.2 rfl))
end Mine
end
section
open PySem PySem.Calls PySem.W PyProof.Rows PySem.Spec
set_option maxRecDepth 100000
namespace Mine
variable {cx : Cx} {n : Nat} {Φ : Phi}
theorem Ext.shrink {X : Nat → Prop} {wr : List Nat} {H H' : AH} {h₀ h h' : Heap} (e : Ext (fun b => X b ∨ b ∈ wr) H h H' h') (k₀ : ∀ b o, h₀.get? b = some o → h.get? b = some o) (hw : ∀ b ∈ wr, h₀.get? b = none) : Ext X H h₀ H' h' where
  keep b o g m nx := e.keep b o (k₀ b o g) m fun q => q.elim nx fun q => by rw [hw b q] at g; cases g
  new b q := (e.new b q).imp id fun z => by
    cases g : h₀.get? b with
    | none => rfl
    | some o => rw [k₀ b o g] at z; cases z
  live b q := e.live b fun z => by
    cases g : h₀.get? b with
    | none => exact q g
    | some o => rw [k₀ b o g] at z; cases z
theorem HR.aside {H : AH} {h h' : Heap} {wr : List Nat} (R : HR cx H h) (hw : ∀ b ∈ wr, H b = none ∧ cx.B.get? b = none) (k : ∀ b o, b ∉ wr → h.get? b = some o → h'.get? b = some o) : HR cx H h' where
  base b o e := k b o (fun q => by rw [(hw b q).2] at e; cases e) (R.base b o e)
  obs a ob e := (R.obs a ob e).at fun o => k a o fun q => by rw [(hw a q).1] at e; cases e
  frs := R.frs
theorem Ext.aside {H : AH} {h h' : Heap} {wr : List Nat} (k : ∀ b o, b ∉ wr → h.get? b = some o → h'.get? b = some o) (lv : ∀ b ∈ wr, h'.get? b ≠ none) : Ext (fun b => b ∈ wr) H h H h' where
  keep b o e _ q := k b o q e
  new b e := .inl e
  live b e := by
    by_cases q : b ∈ wr
    · exact lv b q
    · cases z : h.get? b with
      | none => exact absurd z e
      | some o => rw [k b o q z]; simp
theorem LR.aside {fi : FI} {l : Loc} {h h' : Heap} {wr : List Nat} (L : LR cx fi l h) (hw : ∀ b ∈ wr, ¬ own fi b) (k : ∀ b o, b ∉ wr → h.get? b = some o → h'.get? b = some o) : LR cx fi l h' where
  ns := by
    obtain ⟨m, hn, hm⟩ := L.ns
    exact ⟨m, hn.at' fun o ho => k _ o (fun q => hw _ q (.inl rfl)) ho, hm⟩
  cells := fun i y c hi => by
    obtain ⟨v, ⟨o, ho, hd⟩, hv⟩ := L.cells i y c hi
    exact ⟨v, ⟨o, k _ o (fun q => hw _ q (.inr ⟨i, y, hi⟩)) ho, hd⟩, hv⟩
  lfr := L.lfr
  cfr := L.cfr
  len := L.len
structure Trn (cx : Cx) (fi : FI) (A : Around) (target : Expr) (I : Addr) (wr : List Nat) (cnt : Nat) (src : AH → Prop) (It : Nat → Heap → Prop) (lay : Nat → Loc → Loc) (tg : List Nat) : Prop where
  frame : ∀ i h h', It i h → (∀ b ∈ wr, ∀ o, h.get? b = some o → h'.get? b = some o) → It i h'
  live : ∀ i h, It i h → ∀ b ∈ wr, h.get? b ≠ none
  one : ∀ i l H (s : Shared) (P : Unit → Shared → Prop) (Er : Value → Shared → Prop), i < cnt → src H → HR cx H s.heap → LR cx fi l s.heap → It i s.heap → (∀ b ∈ wr, H b = none ∧ cx.B.get? b = none ∧ ¬ own fi b) →
    (∀ h' tk, HR cx H h' → LR cx fi (lay i l) h' → It (i + 1) h' → Ext (fun b => ownS fi tg b ∨ b ∈ wr) H s.heap H h' → P () { s with heap := h', toks := tk }) →
    wpAny (model cx.prog cx.w) A (pyNext (.ref I)) (fun r s₁ => match r with
      | none => False
      | some v => wpAny (model cx.prog cx.w) A (letOwnedTupleGo target (.ref I) v) (fun _ s₂ => wpAny (model cx.prog cx.w) A (assign target fi.env v) P Er s₂) Er s₁) Er s
  done : ∀ H (s : Shared) (P : Option Value → Shared → Prop) (Er : Value → Shared → Prop), src H → HR cx H s.heap → It cnt s.heap →
    (∀ h' tk, (∀ b o, b ∉ wr → s.heap.get? b = some o → h'.get? b = some o) → P none { s with heap := h', toks := tk }) → wpAny (model cx.prog cx.w) A (pyNext (.ref I)) P Er s
theorem p_for {fi : FI} {mc : MC} {A : Around} {Er : Value → Shared → Prop} {target : Expr} {I : Addr} {wr : List Nat} {cnt : Nat} {src : AH → Prop} {It : Nat → Heap → Prop} {lay : Nat → Loc → Loc} {tg : List Nat} {b : Ss} {ps : List Stmt} {l : Loc} {H : AH} {s₀ s : Shared} {K : KQ}
    (T : Trn cx fi A target I wr cnt src It lay tg) (hb : SSs cx n Φ b) (hm : mSs mc b ps = true) (F : FOk cx fi mc) (hA : AOk n A) (R : HR cx H s.heap) (L : LR cx fi l s.heap) (hI : It 0 s.heap)
    (hs₀ : ∃ h tk, s = { s₀ with heap := h, toks := tk }) (k₀ : ∀ b o, s₀.heap.get? b = some o → s.heap.get? b = some o)
    (hw : ∀ b ∈ wr, H b = none ∧ cx.B.get? b = none ∧ ¬ own fi b ∧ s₀.heap.get? b = none) (J : Nat → Loc → AH → Prop) (h0 : J 0 l H) (hsrc : ∀ k l H, J k l H → src H)
    (step : ∀ k l H, k < cnt → J k l H → execsS Φ b (lay k l) H fun f l' H' => match f with | .next => J (k + 1) l' H' | .ret v => K (.ret v) l' H')
    (fin : ∀ l H, J cnt l H → K .next l H) :
    codeAny (model cx.prog cx.w) A (.forLoop target (.ref I) ps [] fi.env) (fun r s' => match r with | .ok f => SPst cx fi H s₀ K f s' | .error e => cameBackBy (model cx.prog cx.w) A fi.env Er e s') s := by
  obtain ⟨hp, tp, rfl⟩ := hs₀
  refine codeAny_forLoop_any (fun k s' => ∃ i l' H' h' tk, s' = { s₀ with heap := h', toks := tk } ∧ i ≤ cnt ∧ k = cnt + 1 - i ∧ It i h' ∧ HR cx H' h' ∧ LR cx fi l' h' ∧ Ext (fun b => own fi b ∨ b ∈ wr) H hp H' h' ∧ (∀ b ∈ wr, H' b = none) ∧ J i l' H') ?_ (cnt + 1)
    ⟨0, l, H, hp, tp, rfl, Nat.zero_le _, rfl, hI, R, L, Ext.refl, fun b hb => (hw b hb).1, h0⟩
  rintro k s' ⟨i, l', H', h', tk, rfl, hi, rfl, hI', R', L', e', hw', hJ⟩
  have hwr : ∀ b ∈ wr, H' b = none ∧ cx.B.get? b = none ∧ ¬ own fi b := fun b hb => ⟨hw' b hb, (hw b hb).2.1, (hw b hb).2.2.1⟩
  by_cases hlt : i < cnt
  · refine wpAny_mono (T.one i l' H' { s₀ with heap := h', toks := tk } (fun _ s₂ => wpAny (model cx.prog cx.w) A (execs ps fi.env) (fun f s₃ => match f with
            | .next | .cont => ∃ m, m < cnt + 1 - i ∧ ∃ i l' H' h' tk, s₃ = { s₀ with heap := h', toks := tk } ∧ i ≤ cnt ∧ m = cnt + 1 - i ∧ It i h' ∧ HR cx H' h' ∧ LR cx fi l' h' ∧ Ext (fun b => own fi b ∨ b ∈ wr) H hp H' h' ∧ (∀ b ∈ wr, H' b = none) ∧ J i l' H'
            | .brk => SPst cx fi H s₀ K .next s₃
            | .ret v => SPst cx fi H s₀ K (.ret v) s₃) (notedBy (model cx.prog cx.w) A fi.env fun e s' => cameBackBy (model cx.prog cx.w) A fi.env Er e s') s₂) (notedBy (model cx.prog cx.w) A fi.env fun e s' => cameBackBy (model cx.prog cx.w) A fi.env Er e s') hlt (hsrc _ _ _ hJ) R' L' hI' hwr ?_) (fun r s₁ hr => ?_) fun _ _ e => e
    · intro h₁ tk₁ R₁ L₁ hI₁ e₁
      refine wpAny_mono (hb _ _ _ _ _ _ _ { s₀ with heap := h₁, toks := tk₁ } _ hm F hA R₁ L₁ (step i l' H' hlt hJ)) (fun f s₂ p => ?_) fun _ _ e => e
      obtain ⟨fl, l₂, H₂, h₂, tk₂, rfl, hf, R₂, L₂, e₂, q⟩ := p
      have e12 : Ext (fun b => own fi b ∨ b ∈ wr) H hp H₂ h₂ := (e'.trans (e₁.mono fun b hb => hb.imp (fun h => h.own) id)).trans (e₂.mono fun b hb => .inl hb)
      cases fl with
      | next =>
        cases f <;> first | exact hf.elim | skip
        have hn₂ : ∀ b ∈ wr, H₂ b = none := fun b hb => by
          cases q : H₂ b with
          | none => rfl
          | some ob =>
            rcases e₂.new b (by rw [q]; simp) with z | z
            · exact absurd (hw' b hb) z
            · exact absurd z (T.live _ _ hI₁ b hb)
        exact ⟨cnt + 1 - (i + 1), by exact o40 hlt, i + 1, l₂, H₂, h₂, tk₂, rfl, hlt, rfl, T.frame _ _ _ hI₁ fun b hb o ho => e₂.keep b o ho (hw' b hb) (hwr b hb).2.2, R₂, L₂, e12, hn₂, q⟩
      | ret v =>
        cases f <;> first | exact hf.elim | skip
        exact ⟨.ret v, l₂, H₂, h₂, tk₂, rfl, hf, R₂, L₂, e12.shrink k₀ fun b hb => (hw b hb).2.2.2, q⟩
    · cases r with
      | none => exact hr.elim
      | some v => exact hr
  · obtain rfl : i = cnt := Nat.le_antisymm hi (Nat.not_lt.mp hlt)
    refine T.done H' { s₀ with heap := h', toks := tk } _ _ (hsrc _ _ _ hJ) R' hI' fun h₁ tk₁ k₁ => ?_
    have e0 := e'.shrink (X := own fi) k₀ fun b hb => (hw b hb).2.2.2
    have nw : ∀ {b o}, s₀.heap.get? b = some o → b ∉ wr := fun g q => by rw [(hw _ q).2.2.2] at g; cases g
    refine wpAny_execs_nil ⟨.next, l', H', h₁, tk₁, rfl, trivial, R'.aside (fun b hb => ⟨(hwr b hb).1, (hwr b hb).2.1⟩) k₁, L'.aside (fun b hb => (hwr b hb).2.2) k₁, ⟨fun b o g m nx => k₁ b o (nw g) (e0.keep b o g m nx), e0.new, fun b g => ?_⟩, fin l' H' hJ⟩
    cases z : s₀.heap.get? b with
    | none => exact absurd z g
    | some o =>
      cases z' : h'.get? b with
      | none => exact absurd z' (e0.live b g)
      | some o' => rw [k₁ b o' (nw z) z']; simp
theorem fresh_of {fi : FI} {H : AH} {h : Heap} {l : Loc} (R : HR cx H h) (L : LR cx fi l h) {b : Nat} (hb : h.objs.size ≤ b) : H b = none ∧ cx.B.get? b = none ∧ ¬ own fi b ∧ h.get? b = none := by
  have hn : h.get? b = none := Heap.get?_none_of_le hb
  refine ⟨?_, ?_, ?_, hn⟩
  · cases q : H b with
    | none => rfl
    | some ob => obtain ⟨o, _, _, ho, _⟩ := (R.obs b ob q).seq; rw [hn] at ho; cases ho
  · cases q : cx.B.get? b with
    | none => rfl
    | some o => have := R.base b o q; rw [hn] at this; cases this
  · rintro (rfl | ⟨i, x, hi⟩)
    · obtain ⟨m, ⟨o, _, _, ho, _⟩, _⟩ := L.ns
      rw [hn] at ho; cases ho
    · obtain ⟨v, ⟨o, ho, _⟩, _⟩ := L.cells i x b hi
      rw [hn] at ho; cases ho
theorem trn_list {fi : FI} {mc : MC} {A : Around} {i : Nat} {x : Str} {p : Pos} {I r : Nat} {xs : List V} (F : FOk cx fi mc) (hx : mc.isVar i x = true) (hh : A.handled = none) :
    Trn cx fi A (.Name x p) I [I] xs.length (fun H => H r = some (.lst xs)) (fun k h => h.IsListIter I r k) (fun k l => match xs[k]? with | some v => l.set i (some v) | none => l) [i] where
  frame := fun k h h' ⟨o, ho, q⟩ e => ⟨o, e I (.head _) o ho, q⟩
  live := fun k h ⟨o, ho, _⟩ b hb => by rw [List.mem_singleton.mp hb, ho]; simp
  one := fun k l H s P Er hk hs R L hI hw q => by
    obtain ⟨ws, m, hv, hl⟩ := R.obs r _ hs
    obtain ⟨w, hw', hvw⟩ := hv.get (List.getElem?_eq_getElem hk)
    refine wpAny_pyNext_list_item hI hl.isList (by simpa using hw') fun h' hI' hs' => ?_
    have k' : ∀ b o, b ∉ [I] → s.heap.get? b = some o → h'.get? b = some o := fun b o hb e => (hs'.2 b (by simpa using hb)).trans e
    have R' := R.aside (fun b hb => ⟨(hw b hb).1, (hw b hb).2.1⟩) k'
    have e' := Ext.aside (H := H) k' (fun b hb => by rw [List.mem_singleton.mp hb]; obtain ⟨o, ho, _⟩ := hI'; rw [ho]; simp)
    have L' := L.aside (fun b hb => (hw b hb).2.2) k'
    show wpAny _ A (letOwnedTupleGo (.Name x p) (.ref I) w) _ _ _
    refine wpAny_of_eq (a := ()) rfl (wpAny_assign_Name (p_store (s := { s with heap := h' }) F R' L' hx hvw fun h'' tk R'' L'' e'' => ?_))
    refine q h'' tk R'' ?_ ?_ ((e'.mono fun b hb => .inr hb).trans (e''.mono fun b hb => .inl ⟨i, .head _, hb⟩))
    · simp only [List.getElem?_eq_getElem hk]; exact L''
    · obtain ⟨o, ho, z⟩ := hI'
      exact ⟨o, e''.keep I o ho (hw I (.head _)).1 (fun q => (hw I (.head _)).2.2 q.own), z⟩
  done := fun H s P Er hs R hI q => by
    obtain ⟨ws, m, hv, hl⟩ := R.obs r _ hs
    exact wpAny_pyNext_list_end hh hI hl.isList (by simp [hv.length]) fun h' he => q h' s.toks fun b o hb e => he b o (by simpa using hb) e
theorem folded_of {mc : MC} {e : E} {pe : Expr} {env : Env} (h : mE mc e pe = true) : ∀ x, foldedSetIterable pe env x = pure x := by
  intro x
  replace h := mE_idx h
  cases pe <;> first | rfl | exact absurd h Bool.false_ne_true
theorem sS_forL {i : Nat} {e : E} {b : Ss} (he : SE cx n Φ e) (hb : SSs cx n Φ b) : SS cx n Φ (.forL i e b) := by
  intro fi mc ps l H K A s Er h F hA R L hs
  apply i_mS_forL h
  intro _ _ _ _ _ h
  simp only [Bool.and_eq_true] at h
  refine wpAny_For (wp_then (he _ _ _ _ _ _ _ _ _ h.1.2 F hA R L hs) fun x v H₁ h₁ tk hx R₁ e₁ hs₁ => ?_) (folded_of h.1.2)
  replace hs₁ := asR_iff.mp hs₁
  obtain ⟨r, rfl, xs, hsz, J, h0, hsrc, step, fin⟩ := hs₁
  cases hx
  have L₁ := L.ext R e₁
  obtain ⟨ws, m, hv, hl⟩ := R₁.obs r _ (hsrc _ _ _ h0)
  refine wpAny_pyIter_list hl.isList ?_
  have up : ∀ b o, h₁.get? b = some o → (h₁.push { cls := .type "list_iterator", data := .fields #[.ref r, .int 0 0] }).get? b = some o := fun b o e => Heap.get?_push_of_some _ e
  obtain ⟨R₂, e₂⟩ := R₁.grow up
  obtain ⟨f1, f2, f3, f4⟩ := fresh_of R₁ L₁ (Nat.le_refl h₁.objs.size)
  refine codeAny_mono (p_for (s₀ := { s with heap := h₁, toks := tk }) (Er := Er) (trn_list F h.1.1 hA.hh) hb h.2 F hA R₂ (L₁.ext R₁ e₂) ⟨_, Heap.get?_push_size _ rfl, rfl, rfl⟩ ⟨_, _, rfl⟩ up
    (fun b hb => by rw [List.mem_singleton.mp hb]; exact ⟨f1, f2, f3, f4⟩) J h0 hsrc (fun k l H hk hJ => by have := step k l H _ (List.getElem?_eq_getElem hk) hJ; show execsS Φ b (match xs[k]? with | some v => l.set i (some v) | none => l) H _; rw [List.getElem?_eq_getElem hk]; exact this) fin) fun r s' q => ?_
  cases r with
  | ok f => exact SPst.up (tk := tk) e₁.weak q
  | error e => exact q
theorem rangeSize_nonneg {lo hi st : Int} (_h : st ≠ 0) : (rangeLen lo hi st : Int) = Builtin.Range.rangeSize lo hi st := by
  unfold rangeLen
  refine Int.toNat_of_nonneg ?_
  unfold Builtin.Range.rangeSize
  split
  · split
    · have : 0 ≤ (hi - lo - 1) / st := Int.ediv_nonneg (by exact o41 (by assumption)) (by exact o42 (by assumption))
      exact o43 this
    · exact Int.le_refl _
  · split
    · have : 0 ≤ (lo - hi - 1) / (-st) := Int.ediv_nonneg (by exact o44 (by assumption)) (by exact o45 (by assumption))
      exact o43 this
    · exact Int.le_refl _
theorem trn_range {fi : FI} {mc : MC} {A : Around} {i : Nat} {x : Str} {p : Pos} {I : Nat} {lo st : Int} {cnt : Nat} (F : FOk cx fi mc) (hx : mc.isVar i x = true) (hh : A.handled = none) :
    Trn cx fi A (.Name x p) I [I] cnt (fun _ => True) (fun k h => IsRangeIter h I (lo + (k : Int) * st) ((cnt : Int) - (k : Int)) st) (fun k l => l.set i (some (.int (lo + (k : Int) * st)))) [i] where
  frame := fun k h h' ho e => e I (.head _) _ ho
  live := fun k h ho b hb => by rw [List.mem_singleton.mp hb, ho]; simp
  one := fun k l H s P Er hk hs R L hI hw q => by
    refine wpAny_pyNext_range_item hI (by exact o46 hk) fun h' hI' hs' => ?_
    have k' : ∀ b o, b ∉ [I] → s.heap.get? b = some o → h'.get? b = some o := fun b o hb e => (hs'.2 b (by simpa using hb)).trans e
    have R' := R.aside (fun b hb => ⟨(hw b hb).1, (hw b hb).2.1⟩) k'
    have e' := Ext.aside (H := H) k' (fun b hb => by rw [List.mem_singleton.mp hb, hI']; simp)
    have L' := L.aside (fun b hb => (hw b hb).2.2) k'
    show wpAny _ A (letOwnedTupleGo (.Name x p) (.ref I) _) _ _ _
    refine wpAny_of_eq (a := ()) rfl (wpAny_assign_Name (p_store (s := { s with heap := h', toks := s.toks + 1 }) F R' L' hx (.int _ _) fun h'' tk R'' L'' e'' => ?_))
    refine q h'' tk R'' L'' ?_ ((e'.mono fun b hb => .inr hb).trans (e''.mono fun b hb => .inl ⟨i, .head _, hb⟩))
    have z := e''.keep I _ hI' (hw I (.head _)).1 (fun q => (hw I (.head _)).2.2 q.own)
    have z1 : lo + (k : Int) * st + st = lo + ((k + 1 : Nat) : Int) * st := by rw [Int.natCast_add, Int.add_mul]; omega
    have z2 : (cnt : Int) - (k : Int) - 1 = (cnt : Int) - ((k + 1 : Nat) : Int) := by exact o48
    rw [z1, z2] at z
    exact z
  done := fun H s P Er hs R hI q => wpAny_pyNext_range_end hh hI (by exact o49) fun h' he => q h' s.toks fun b o hb e => he b o (by simpa using hb) e
theorem foldedR {mc : MC} {r : R} {pe : Expr} {env : Env} (h : mR mc r pe = true) : ∀ x, foldedSetIterable pe env x = pure x := by
  intro x
  cases pe <;> first | rfl | skip
  cases r <;> exact absurd h Bool.false_ne_true
theorem sS_forR {i : Nat} {r : R} {b : Ss} (hr : SR cx n Φ r) (hb : SSs cx n Φ b) : SS cx n Φ (.forR i r b) := by
  intro fi mc ps l H K A s Er h F hA R L hs
  apply i_mS_forR h
  intro _ _ _ _ _ h
  simp only [Bool.and_eq_true] at h
  refine wpAny_For (wpAny_mono (hr _ _ _ _ _ _ _ _ _ h.1.2 F hA R L hs) (fun v s₁ p => ?_) fun _ _ e => e) (foldedR h.1.2)
  obtain ⟨lo, hi, st, H₁, h₁, tk, ra, t, u, w, rfl, rfl, hra, R₁, e₁, ok, J, h0, step, fin⟩ := p
  have L₁ := L.ext R e₁
  refine wpAny_pyIter_range hra ok.2.2.1 ?_
  have hsz := rangeSize_nonneg (lo := lo) (hi := hi) ok.1
  have up : ∀ b o, h₁.get? b = some o → (h₁.push { cls := .type "range_iterator", data := .fields #[rawInt lo, rawInt (Builtin.Range.rangeSize lo hi st), rawInt st] }).get? b = some o := fun b o e => Heap.get?_push_of_some _ e
  obtain ⟨R₂, e₂⟩ := R₁.grow up
  obtain ⟨f1, f2, f3, f4⟩ := fresh_of R₁ L₁ (Nat.le_refl h₁.objs.size)
  refine codeAny_mono (p_for (s₀ := { s with heap := h₁, toks := tk }) (Er := Er) (trn_range (lo := lo) (st := st) (cnt := rangeLen lo hi st) F h.1.1 hA.hh) hb h.2 F hA R₂ (L₁.ext R₁ e₂)
    (by show IsRangeIter _ _ _ _ _; rw [hsz]; simpa using Heap.get?_push_size _ rfl) ⟨_, _, rfl⟩ up (fun b hb => by rw [List.mem_singleton.mp hb]; exact ⟨f1, f2, f3, f4⟩) J h0 (fun _ _ _ _ => trivial) step fin) fun r s' q => ?_
  cases r with
  | ok f => exact SPst.up (tk := tk) e₁.weak q
  | error e => exact q
theorem trn_enum {fi : FI} {mc : MC} {A : Around} {i j : Nat} {x y : Str} {p p' tp : Pos} {kk : Nat} {e it r : Nat} {xs : List V} (F : FOk cx fi mc) (hx : mc.isVar i x = true) (hy : mc.isVar j y = true) (hA : AOk n A) (hei : e ≠ it) (hre : r ≠ e) (hri : r ≠ it) :
    Trn cx fi A (.Tuple [.Name x p, .Name y p'] kk tp) e [e, it] xs.length (fun H => H r = some (.lst xs)) (fun k h => (∃ old, IsEnum h e it (k : Nat) old) ∧ h.IsListIter it r k)
      (fun k l => match xs[k]? with | some v => (l.set i (some (.int (k : Int)))).set j (some v) | none => l) [i, j] where
  frame := fun k h h' ⟨⟨old, h1⟩, o, ho, q⟩ g => ⟨⟨old, g e (by simp) _ h1⟩, o, g it (by simp) o ho, q⟩
  live := fun k h ⟨⟨old, h1⟩, o, ho, _⟩ b hb => by
    simp only [List.mem_cons, List.not_mem_nil, or_false] at hb
    rcases hb with rfl | rfl
    · rw [show h.get? b = _ from h1]; simp
    · rw [ho]; simp
  one := fun k l H s P Er hk hs R L hI hw q => by
    obtain ⟨ws, m, hv, hl⟩ := R.obs r _ hs
    obtain ⟨w, hw', hvw⟩ := hv.get (List.getElem?_eq_getElem hk)
    have W := WalksT.enumerate (prog := cx.prog) (w := cx.w) hA.hh e it r hei hre hri ws.toArray
    refine W.item k s _ Er (by simp [hv.length]; exact hk) ⟨hI.1, hI.2, hl.isList⟩ fun T vals h₁ tk₁ hP hTs hT hM k₁ => ?_
    obtain ⟨t, z, hz, rfl⟩ := hP
    obtain rfl : z = w := by
      have : ws[k]? = some z := by simpa using hz
      rw [hw'] at this; exact (Option.some.inj this).symm
    refine W.go _ _ _ k T { s with heap := h₁, toks := tk₁ } _ _ hM fun h₂ hSt k₂ => ?_
    have hTne := W.apart k T _ hM
    have k' : ∀ b o, b ∉ [e, it] → s.heap.get? b = some o → h₂.get? b = some o := fun b o hb g => k₂ b o hb (k₁ b o hb g)
    have R' := R.aside (fun b hb => ⟨(hw b hb).1, (hw b hb).2.1⟩) k'
    have L' := L.aside (fun b hb => (hw b hb).2.2) k'
    obtain ⟨⟨old', hE⟩, ⟨oi, hoi, hoi'⟩, _⟩ := hSt
    have e' := Ext.aside (H := H) k' (fun b hb => by
      simp only [List.mem_cons, List.not_mem_nil, or_false] at hb
      rcases hb with rfl | rfl
      · rw [show h₂.get? b = _ from hE]; simp
      · rw [hoi]; simp)
    have hT₂ : h₂.IsTuple T #[.int k t, z] := hT.at fun o g => k₂ T o hTne g
    refine p_assignTup (s := { s with heap := h₂, toks := tk₁ }) (ws := [.int k t, z]) (vs := [.int (k : Int), xs[k]]) (is := [i, j]) F hA (by show (mc.isVar i x && (mc.isVar j y && true)) = true; simp [hx, hy]) hT₂ (.cons (.int _ _) (.cons hvw .nil)) rfl R' L' fun h₃ tk₃ R₃ L₃ e₃ => ?_
    refine q h₃ tk₃ R₃ ?_ ⟨⟨old', ?_⟩, oi, e₃.keep it oi hoi (hw it (by simp)).1 (fun q => (hw it (by simp)).2.2 q.own), hoi'⟩ ((e'.mono fun b hb => .inr hb).trans (e₃.mono fun b hb => .inl hb))
    · simp only [List.getElem?_eq_getElem hk]; exact L₃
    · exact e₃.keep e _ hE (hw e (by simp)).1 fun q => (hw e (by simp)).2.2 q.own
  done := fun H s P Er hs R hI q => by
    obtain ⟨ws, m, hv, hl⟩ := R.obs r _ hs
    have W := WalksT.enumerate (prog := cx.prog) (w := cx.w) hA.hh e it r hei hre hri ws.toArray
    have hsz : ws.toArray.size = xs.length := by simp [hv.length]
    refine W.done s _ Er (by rw [hsz]; exact ⟨hI.1, hI.2, hl.isList⟩) fun h' tk k' => q h' tk k'
theorem sS_forE (B : BOk cx) {i j : Nat} {e : E} {b : Ss} (he : SE cx n Φ e) (hb : SSs cx n Φ b) : SS cx n Φ (.forE i j e b) := by
  intro fi mc ps l H K A s Er h F hA R L hs
  apply i_mS_forE h
  intro _ _ _ _ _ _ _ _ _ _ _ _ h
  simp only [Bool.and_eq_true] at h
  obtain ⟨⟨⟨⟨⟨h1, h2⟩, h3⟩, h4⟩, h5⟩, h6⟩ := h
  refine wpAny_For (blt1t B he h4 h5 (by simp) PyProof.Rows.Boot.«enumerate» F hA R L hs fun x v H₁ h₁ tk hx R₁ e₁ hs₁ => ?_) (fun _ => rfl)
  replace hs₁ := asR_iff.mp hs₁
  obtain ⟨r, rfl, xs, hsz, J, h0, hsrc, step, fin⟩ := hs₁
  cases hx
  have L₁ := L.ext R e₁
  obtain ⟨ws, m, hv, hl⟩ := R₁.obs r _ (hsrc _ _ _ h0)
  have hr : r < h₁.objs.size := Heap.lt_size hl
  refine call_enumerate_list (s := { s with heap := h₁, toks := tk }) hl.isList fun h₂ hE hI hz up => ?_
  refine wpAny_pyIter_enum (s := { s with heap := h₂, toks := tk }) hE ?_
  obtain ⟨R₂, e₂⟩ := R₁.grow up
  refine codeAny_mono (p_for (s₀ := { s with heap := h₁, toks := tk }) (Er := Er) (trn_enum (xs := xs) (r := r) F h1 h2 hA (Nat.succ_ne_self _) (by show r ≠ h₁.objs.size + 1; exact o50 hr) (by show r ≠ h₁.objs.size; exact o51 hr)) hb h6 F hA R₂ (L₁.ext R₁ e₂) ⟨⟨_, hE⟩, hI⟩ ⟨_, _, rfl⟩ up
    (fun b hb => ?_) J h0 hsrc (fun k l H hk hJ => by have := step k l H _ (List.getElem?_eq_getElem hk) hJ; show execsS Φ b (match xs[k]? with | some v => (l.set i (some (.int (k : Int)))).set j (some v) | none => l) H _; rw [List.getElem?_eq_getElem hk]; exact this) fin) fun r s' q => ?_
  · simp only [List.mem_cons, List.not_mem_nil, or_false] at hb
    rcases hb with rfl | rfl
    · exact fresh_of R₁ L₁ (Nat.le_succ _)
    · exact fresh_of R₁ L₁ (Nat.le_refl _)
  cases r with
  | ok f => exact SPst.up (tk := tk) e₁.weak q
  | error e => exact q
end Mine
end
section
open PySem PySem.Calls PySem.W PyProof.Rows PySem.Spec
set_option maxRecDepth 100000
namespace Mine
variable {cx : Cx} {n : Nat} {Φ : Phi}
noncomputable def cellsFor (env : Env) (l : List (Str × NameKind)) (c : List (Str × Addr)) : List (Str × Addr) :=
  l.foldl (fun c p => if p.2 == .free then (p.1, (env.cells.lookup p.1).getD 0) :: c else c) c
theorem closure_go {env : Env} : ∀ (l : List (Str × NameKind)) (c : List (Str × Addr)), (∀ p ∈ l, p.2 = .free → ∃ a, env.cells.lookup p.1 = some a) →
    (forIn l c fun x r => match x with
      | (name, kind) => if (kind == NameKind.free) = true then do
          let __do_lift ← cellOf env name
          pure PUnit.unit
          pure (ForInStep.yield ((name, __do_lift) :: r))
        else do
          pure PUnit.unit
          pure (ForInStep.yield r) : Sem _) = pure (cellsFor env l c)
  | [], c, _ => by rw [List.forIn_nil]; rfl
  | (x, k) :: l, c, h => by
    rw [List.forIn_cons]
    have ih := fun c => closure_go (env := env) l c fun p hp => h p (.tail _ hp)
    by_cases hk : k = .free
    · subst hk
      obtain ⟨a, ha⟩ := h _ (.head _) rfl
      have ha' : env.cells.lookup x = some a := ha
      have e : cellOf env x = pure a := by unfold cellOf; rw [ha']
      simp only [beq_self_eq_true, if_true, e]
      show _ = pure (cellsFor env l ((x, (env.cells.lookup x).getD 0) :: c))
      rw [ha']
      exact ih _
    · have : (k == NameKind.free) = false := by simpa using hk
      simp only [this, Bool.false_eq_true, if_false]
      show _ = pure (cellsFor env l (if (k == NameKind.free) = true then _ else c))
      rw [this]
      exact ih _
theorem cellsFor_lookup {env : Env} : ∀ (l : List (Str × NameKind)) (c : List (Str × Addr)), (∀ p ∈ l, p.2 = .free → ∃ a, env.cells.lookup p.1 = some a) → ∀ x,
    (cellsFor env l c).lookup x = if (x, NameKind.free) ∈ l then env.cells.lookup x else c.lookup x
  | [], c, _, x => by simp [cellsFor]
  | (y, k) :: l, c, h, x => by
    have ih := cellsFor_lookup (env := env) l (if k == .free then (y, (env.cells.lookup y).getD 0) :: c else c) (fun p hp => h p (.tail _ hp)) x
    show (cellsFor env l (if k == .free then (y, (env.cells.lookup y).getD 0) :: c else c)).lookup x = _
    rw [ih]
    by_cases hm : (x, NameKind.free) ∈ l
    · rw [if_pos hm, if_pos (.tail _ hm)]
    · rw [if_neg hm]
      by_cases hk : k = .free
      · subst hk
        obtain ⟨a, ha⟩ := h _ (.head _) rfl
        have ha' : env.cells.lookup y = some a := ha
        rw [if_pos (by rfl)]
        by_cases hx : x = y
        · subst hx
          rw [if_pos (.head _), ha']
          simp
        · have : (x, NameKind.free) ∉ (y, NameKind.free) :: l := fun q => by
            rcases List.mem_cons.mp q with q | q
            · cases q; exact hx rfl
            · exact hm q
          rw [if_neg this]
          have hb : (x == y) = false := beq_false_of_ne hx
          simp [List.lookup_cons, hb]
      · have : (x, NameKind.free) ∉ (y, k) :: l := fun q => by
          rcases List.mem_cons.mp q with q | q
          · cases q; exact hk rfl
          · exact hm q
        rw [if_neg this]
        have hb : (k == NameKind.free) = false := by simpa using hk
        rw [hb]; rfl
theorem closureFor_cells {sc : Scope} {env : Env} (h : ∀ p ∈ sc.names, p.2 = .free → ∃ a, env.cells.lookup p.1 = some a) : closureFor sc env = pure (cellsFor env sc.names []) := by
  unfold closureFor
  exact congrArg (fun m : Sem (List (Str × Addr)) => m >>= fun r => pure r >>= fun r => pure r) (closure_go (env := env) sc.names [] h)
theorem mem_of_lookup {x : Str} {k : NameKind} : ∀ {l : List (Str × NameKind)}, l.lookup x = some k → (x, k) ∈ l
  | [], h => by simp at h
  | (y, k') :: l, h => by
    rw [List.lookup_cons] at h
    cases hb : x == y with
    | true => rw [hb] at h; cases h; rw [beq_iff_eq] at hb; subst hb; exact .head _
    | false => rw [hb] at h; exact .tail _ (mem_of_lookup h)
theorem relabel_lookup {env : Env} {x : Str} {k : NameKind} : ∀ {names : List (Str × NameKind)}, names.lookup x = some k →
    (names.map fun (n, k) => if (k == NameKind.free && env.scope.kind == .function && env.kindOf n == some .cell) then (n, NameKind.cell) else (n, k)).lookup x =
      some (if (k == NameKind.free && env.scope.kind == .function && env.kindOf x == some .cell) then .cell else k)
  | [], h => by simp at h
  | (y, k') :: r, h => by
    have ih := @relabel_lookup env x k r
    show List.lookup x ((if (k' == NameKind.free && env.scope.kind == .function && env.kindOf y == some .cell) = true then (y, NameKind.cell) else (y, k')) :: _) = _
    rw [List.lookup_cons] at h
    cases hx : x == y with
    | true =>
      rw [hx] at h; cases h
      rw [beq_iff_eq] at hx; subst hx
      split <;> simp
    | false =>
      rw [hx] at h
      split <;> (simp only [List.lookup_cons, hx]; exact ih h)
noncomputable def subFI (fi : FI) (mc : MC) (sc : Scope) (xs : List Str) (C : Addr) : FI :=
  ⟨compEnvC sc (cellsFor fi.env sc.names []) C fi.env,
   (fi.vars.map fun p => (p.1, match p.2 with | .cell c => (if sc.names.lookup p.1 == some .free && mc.sc.names.lookup p.1 == some .cell then .cell c else .hid) | _ => .hid)) ++ xs.map fun x => (x, .loc)⟩
structure SubOk (mc : MC) (sc : Scope) (xs : List Str) : Prop where
  kind : sc.kind = .function
  nocell : ∀ y ∈ sc.names, y.2 ≠ .cell
  loc : ∀ y ∈ sc.names, y.2 = .local → sc.names.lookup y.1 = some .local
  free : ∀ y ∈ sc.names, y.2 = .free → mc.sc.names.lookup y.1 = some .cell
  tgt : ∀ x ∈ xs, sc.names.lookup x = some .local
  dbg : ∀ x ∈ xs, (x != ("__debug__" : Str)) = true
theorem subOk_of {mc : MC} {sc : Scope} {xs : List Str} (h : subOk mc sc xs = true) : SubOk mc sc xs := by
  unfold subOk at h
  simp only [Bool.and_eq_true, List.all_eq_true, beq_iff_eq, Bool.or_eq_true, bne_iff_ne] at h
  obtain ⟨⟨⟨⟨h1, h2⟩, h3⟩, h4⟩, h5⟩ := h
  exact ⟨h1, h2, fun y hy e => (h3 y hy).resolve_left fun q => q e, fun y hy e => (h4 y hy).resolve_left fun q => q e, fun x hx => (h5 x hx).1, fun x hx => bne_iff_ne.mpr (h5 x hx).2⟩
theorem subFI_old {fi : FI} {mc : MC} {sc : Scope} {xs : List Str} {C : Addr} {i : Nat} {x : Str} {c : Addr} (h : (subFI fi mc sc xs C).at i = some (x, .cell c)) :
    fi.at i = some (x, .cell c) ∧ sc.names.lookup x = some .free ∧ mc.sc.names.lookup x = some .cell := by
  unfold FI.at subFI at h
  dsimp only at h
  rw [List.getElem?_append] at h
  split at h
  · rw [List.getElem?_map] at h
    cases q : fi.vars[i]? with
    | none => rw [q] at h; cases h
    | some p =>
      rw [q] at h
      obtain ⟨y, a⟩ := p
      simp only [Option.map_some, Option.some.injEq, Prod.mk.injEq] at h
      obtain ⟨rfl, h⟩ := h
      cases a with
      | cell c' =>
        dsimp only at h
        split at h
        · rename_i hc
          cases h
          simp only [Bool.and_eq_true, beq_iff_eq] at hc
          exact ⟨q, hc⟩
        · cases h
      | _ => cases h
  · rw [List.length_map, List.getElem?_map] at h
    cases q : xs[i - fi.vars.length]? with
    | none => rw [q] at h; cases h
    | some p => rw [q] at h; cases h
theorem subFI_loc {fi : FI} {mc : MC} {sc : Scope} {xs : List Str} {C : Addr} {i : Nat} {x : Str} (h : (subFI fi mc sc xs C).at i = some (x, .loc)) :
    fi.vars.length ≤ i ∧ xs[i - fi.vars.length]? = some x := by
  unfold FI.at subFI at h
  dsimp only at h
  rw [List.getElem?_append] at h
  split at h
  · rw [List.getElem?_map] at h
    cases q : fi.vars[i]? with
    | none => rw [q] at h; cases h
    | some p =>
      rw [q] at h
      obtain ⟨y, a⟩ := p
      simp only [Option.map_some, Option.some.injEq, Prod.mk.injEq] at h
      obtain ⟨-, h⟩ := h
      cases a with
      | cell c' => dsimp only at h; split at h <;> cases h
      | _ => cases h
  · rename_i hl
    rw [List.length_map] at hl h
    rw [List.getElem?_map] at h
    cases q : xs[i - fi.vars.length]? with
    | none => rw [q] at h; cases h
    | some p => rw [q] at h; cases h; exact ⟨Nat.le_of_not_lt hl, rfl⟩
theorem nodup_inj {α : Type} {xs : List α} (hn : xs.Nodup) {i j : Nat} {x : α} (hi : xs[i]? = some x) (hj : xs[j]? = some x) : i = j := by
  obtain ⟨a, b⟩ := List.getElem?_eq_some_iff.mp hi
  obtain ⟨c, d⟩ := List.getElem?_eq_some_iff.mp hj
  exact (List.getElem_inj hn).mp (b.trans d.symm)
theorem FOk.sub {fi : FI} {mc : MC} {sc : Scope} {xs : List Str} {C : Addr} (F : FOk cx fi mc) (S : SubOk mc sc xs) (hn : xs.Nodup) : FOk cx (subFI fi mc sc xs C) (mc.sub sc xs) where
  kind := S.kind
  glob := F.glob
  blt := F.blt
  fns := F.fns
  var i x h := by
    unfold MC.sub at h
    dsimp only at h
    rw [List.getElem?_append, List.length_map] at h
    unfold FI.at subFI
    dsimp only
    rw [List.getElem?_append, List.length_map, ← F.len]
    split at h
    · rename_i hl
      rw [if_pos hl]
      rw [List.getElem?_map] at h
      cases q : mc.names[i]? with
      | none => rw [q] at h; cases h
      | some o =>
        rw [q] at h
        cases o with
        | none => simp at h
        | some y =>
          simp only [Option.map_some, Option.bind_some, Option.some.injEq] at h
          split at h
          · rename_i hc
            cases h
            obtain ⟨a, ha, hla⟩ := F.var i x q
            have hc' := hc
            simp only [Bool.and_eq_true, beq_iff_eq] at hc'
            have hcell := (F.cel x hc'.2).1
            rcases hla with rfl | ⟨c, rfl⟩
            · have := F.loc i x ha; rw [hcell] at this; cases this
            · refine ⟨.cell c, ?_, .inr ⟨c, rfl⟩⟩
              rw [List.getElem?_map, show fi.vars[i]? = some (x, Acc.cell c) from ha]
              simp only [Option.map_some, hc, if_true]
          · cases h
    · rename_i hl
      rw [if_neg hl]
      rw [List.getElem?_map] at h ⊢
      cases q : xs[i - mc.names.length]? with
      | none => rw [q] at h; cases h
      | some y => rw [q] at h; cases h; exact ⟨.loc, rfl, .inl rfl⟩
  loc i x h := by
    obtain ⟨-, h2⟩ := subFI_loc h
    exact lookup_relabel_local (S.tgt x (List.mem_of_getElem? h2))
  cell i x c h := by
    obtain ⟨h1, h2, h3⟩ := subFI_old h
    obtain ⟨hk, hcl⟩ := F.cell i x c h1
    have hcell := (F.cel x h3).1
    refine ⟨.inl ?_, ?_⟩
    · exact (relabel_lookup (env := fi.env) h2).trans (congrArg some (if_pos (by rw [F.kind, hcell]; rfl)))
    · have := cellsFor_lookup (env := fi.env) sc.names [] (fun p hp e => (F.cel p.1 (S.free p hp e)).2) x
      rw [if_pos (mem_of_lookup h2), hcl] at this
      exact this
  injL i j x hi hj := by
    obtain ⟨h1, h2⟩ := subFI_loc hi
    obtain ⟨h3, h4⟩ := subFI_loc hj
    have := nodup_inj hn h2 h4
    exact o52 h1 h3 this
  injC i j x y c hi hj := F.injC i j x y c (subFI_old hi).1 (subFI_old hj).1
  gk x h := by
    unfold MC.glob at h
    simp only [Bool.and_eq_true, beq_iff_eq] at h
    have h1 : sc.names.lookup x = some .globalImplicit := h.1
    exact (relabel_lookup (env := fi.env) h1).trans (congrArg some (if_neg (by simp)))
  len := by simp [MC.sub, subFI, F.len]
  cel x h := absurd rfl (S.nocell _ (mem_of_lookup (show sc.names.lookup x = some .cell from h)))
end Mine
end
section
open PySem PySem.Calls PySem.W PyProof.Rows PySem.Spec
set_option maxRecDepth 100000
namespace Mine
variable {cx : Cx} {n : Nat} {Φ : Phi}
theorem HR.adopt {H : AH} {h : Heap} {D : Nat} {ob : Ob} (R : HR cx H h) (hB : cx.B.get? D = none) (hob : ObR cx.fa h D ob) : HR cx (H.set D ob) h where
  base := R.base
  obs a ob' e := by
    by_cases q : a = D
    · subst q; rw [AH.set_self] at e; cases e; exact hob
    · rw [AH.set_ne q] at e; exact R.obs a ob' e
  frs a ob' e hf := by
    by_cases q : a = D
    · subst q; exact hB
    · rw [AH.set_ne q] at e; exact R.frs a ob' e hf
theorem Ext.adopt {X : Nat → Prop} {H H' : AH} {h h' : Heap} {D : Nat} {ob : Ob} (e : Ext X H h H' h') (hD : h.get? D = none) : Ext X H h (H'.set D ob) h' where
  keep := e.keep
  new b q := by
    by_cases z : b = D
    · subst z; exact .inr hD
    · rw [AH.set_ne z] at q; exact e.new b q
  live := e.live
theorem Ext.side {X : Nat → Prop} {H H' : AH} {h h' h'' : Heap} {C : Nat} (e : Ext X H h H' h') (hC : h.get? C = none) (hs : Heap.SameBut C h' h'') : Ext X H h H' h'' where
  keep b o g m nx := (hs.2 b fun q => by rw [q, hC] at g; cases g).trans (e.keep b o g m nx)
  new := e.new
  live b g := by rw [hs.2 b fun q => g (q ▸ hC)]; exact e.live b g
theorem subFI_own {fi : FI} {mc : MC} {sc : Scope} {xs : List Str} {C b : Nat} (h : own (subFI fi mc sc xs C) b) : b = C ∨ own fi b := by
  rcases h with h | ⟨i, x, h⟩
  · exact .inl h
  · exact .inr (.inr ⟨i, x, (subFI_old h).1⟩)
theorem at_lt {fi : FI} {i : Nat} {p} (h : fi.at i = some p) : i < fi.vars.length := (List.getElem?_eq_some_iff.mp h).1
theorem LR.sub {fi : FI} {mc : MC} {sc : Scope} {xs : List Str} {C : Nat} {l t : Loc} {h : Heap} {m} (L : LR cx fi l h) (ht : t = List.replicate xs.length none) (hC : h.Ns C m) (hB : cx.B.get? C = none) :
    LR cx (subFI fi mc sc xs C) (l ++ t) h where
  ns := ⟨m, hC, fun i x hi => by
    obtain ⟨h1, -⟩ := subFI_loc hi
    have : (l ++ t).getD i none = none := by
      subst ht
      rw [List.getD, List.getElem?_append_right (by rw [L.len]; exact h1), List.getElem?_replicate]
      split <;> rfl
    rw [this]; trivial⟩
  cells i x c hi := by
    obtain ⟨h1, -, -⟩ := subFI_old hi
    obtain ⟨v, hv, ho⟩ := L.cells i x c h1
    refine ⟨v, hv, ?_⟩
    rw [List.getD, List.getElem?_append_left (by rw [L.len]; exact at_lt h1)]
    exact ho
  lfr := hB
  cfr i x c hi := L.cfr i x c (subFI_old hi).1
  len := by subst ht; simp [subFI, L.len]
theorem p_comp {fi : FI} {mc : MC} {A : Around} {Er : Value → Shared → Prop} {elt : E} {pe target iter : Expr} {sc : Scope} {pos : Pos} {xs : List Str} {I : Addr} {wr : List Nat} {cnt : Nat} {src : AH → Prop} {It : Nat → Heap → Prop} {lay : Nat → Loc → Loc}
    {tg : List Nat} {l : Loc} {H : AH} {s₀ s : Shared} {el : V → AH → PQ → Prop} {keep : AH → Prop} {vals : List V} {Qf : List V → AH → Prop} {RR : Value → Addr → Result → Shared → Prop}
    (T : ∀ C, Trn cx (subFI fi mc sc xs C) A target I wr cnt src It lay tg)
    (self : ∀ (s : Shared) (Q : Value → Shared → Prop) (E : Value → Shared → Prop), It 0 s.heap → Q (.ref I) s → wpAny (model cx.prog cx.w) A (pyIter (.ref I)) Q E s)
    (he : SE cx n Φ elt) (hm : mE (mc.sub sc xs) elt pe = true) (F : FOk cx fi mc) (S : SubOk mc sc xs) (hnd : xs.Nodup) (hA : AOk n A) (R₀ : HR cx H s₀.heap) (L₀ : LR cx fi l s₀.heap) (hI : It 0 s.heap)
    (hs₀ : ∃ h tk, s = { s₀ with heap := h, toks := tk }) (k₀ : ∀ b o, s₀.heap.get? b = some o → s.heap.get? b = some o)
    (hw : ∀ b ∈ wr, H b = none ∧ cx.B.get? b = none ∧ ¬ own fi b ∧ s₀.heap.get? b = none) (htg : ∀ i ∈ tg, fi.vars.length ≤ i)
    (hsrc : src H) (hkeep : ∀ H, keep H → src H) (hlen : vals.length = cnt) (hcnt : cnt ≤ lim)
    (hel : ∀ k v t H Q, vals[k]? = some v → t.length = xs.length → el v H Q → ∃ t', t'.length = xs.length ∧ lay k (l ++ t) = l ++ t' ∧ evalS Φ elt (l ++ t') H Q)
    (hc : compS el keep vals [] H Qf)
    (hRR : ∀ (D C : Nat) h' tk H' ys m, H' D = none → HR cx (H'.set D (.lst ys)) h' → LR cx fi l h' → Ext NoX H s₀.heap (H'.set D (.lst ys)) h' → h'.Ns C m → (H'.set D (.lst ys)) C = none → cx.B.get? C = none → ¬ own fi C → s₀.heap.get? C = none → Qf ys H' →
      RR (.ref D) C (.ok .next) { s₀ with heap := h', toks := tk }) :
    wpAny (model cx.prog cx.w) A (newList []) (fun acc s₃ => wpAny (model cx.prog cx.w) A (newFunctionEnv sc fi.env.globals (cellsFor fi.env sc.names []) [] fi.env.qual none .none (some fi.env)) (fun cenv s₄ =>
      codeAny (model cx.prog cx.w) A (.compStart (.ListComp pe [⟨target, iter, [], 0⟩] sc pos) 0 (.ref I) acc { cenv with scope := relabel sc fi.env }) (RR acc cenv.locals) s₄) Er s₃) Er s := by
  obtain ⟨hp, tp, rfl⟩ := hs₀
  refine wpAny_newObj_type (wpAny_newFunctionEnv S.nocell (by intro y hy; simp at hy) (fun h₁ hns₁ hsb₁ => ?_) S.kind)
  dsimp only at hns₁ hsb₁ k₀ ⊢
  have hD : H hp.objs.size = none ∧ cx.B.get? hp.objs.size = none ∧ ¬ own fi hp.objs.size ∧ hp.get? hp.objs.size = none := by
    obtain ⟨R, e⟩ := R₀.grow k₀
    exact fresh_of R (L₀.ext R₀ e) (Nat.le_refl _)
  generalize hH2 : hp.push { cls := .type "list", dict := none, data := .seq ([] : List Value).toArray } = H2 at hns₁ hsb₁ ⊢
  have hsz : H2.objs.size = hp.objs.size + 1 := by rw [← hH2, Heap.size_push]
  have hC : H H2.objs.size = none ∧ cx.B.get? H2.objs.size = none ∧ ¬ own fi H2.objs.size ∧ hp.get? H2.objs.size = none := by
    obtain ⟨R, e⟩ := R₀.grow k₀
    exact fresh_of R (L₀.ext R₀ e) (by rw [hsz]; exact Nat.le_succ _)
  have hDC : hp.objs.size ≠ H2.objs.size := by rw [hsz]; exact Nat.ne_of_lt (Nat.lt_succ_self _)
  have up₁ : ∀ b o, hp.get? b = some o → h₁.get? b = some o := fun b o e => hsb₁.extBut b o (fun q => by rw [q, hC.2.2.2] at e; cases e) (Heap.get?_push_of_some _ (hH2 ▸ Heap.get?_push_of_some _ e))
  have hL : IsL h₁ hp.objs.size ([] : List Value).toArray 0 := hsb₁.extBut _ _ hDC (Heap.get?_push_of_some _ (hH2 ▸ Heap.get?_push_size _ rfl))
  have n₀ : ∀ {b}, hp.get? b = none → s₀.heap.get? b = none := fun {b} h => by
    cases q : s₀.heap.get? b with
    | none => rfl
    | some o => rw [k₀ b o q] at h; cases h
  generalize hp.objs.size = D at hD hDC hL ⊢
  generalize H2.objs.size = C at hC hns₁ hDC ⊢
  obtain ⟨R₁, e₁⟩ := R₀.grow fun b o e => up₁ b o (k₀ b o e)
  have L₁ : LR cx fi l h₁ := L₀.ext R₀ e₁
  have LC : LR cx (subFI fi mc sc xs C) (l ++ List.replicate xs.length none) h₁ := L₁.sub rfl hns₁ hC.2.1
  have wlive : ∀ b ∈ wr, ∃ o, hp.get? b = some o := fun b hb => by
    cases q : hp.get? b with
    | none => exact absurd q ((T C).live 0 _ hI b hb)
    | some o => exact ⟨o, rfl⟩
  have hI₁ : It 0 h₁ := (T C).frame 0 _ _ hI fun b _ o e => up₁ b o e
  have wC : ∀ b ∈ wr, ¬ own (subFI fi mc sc xs C) b := fun b hb q => by
    rcases subFI_own q with rfl | q
    · obtain ⟨o, ho⟩ := wlive b hb; rw [hC.2.2.2] at ho; cases ho
    · exact (hw b hb).2.2.1 q
  have wD : D ∉ wr := fun hb => by obtain ⟨o, ho⟩ := wlive D hb; rw [hD.2.2.2] at ho; cases ho
  have FC := F.sub (C := C) S hnd
  have oD : ¬ own (subFI fi mc sc xs C) D := fun q => (subFI_own q).elim hDC hD.2.2.1
  have tgC : ∀ b, ownS (subFI fi mc sc xs C) tg b → b = C := fun b ⟨i, hi, q⟩ => by
    rcases q with ⟨-, q⟩ | ⟨x, q⟩
    · exact q
    · exact absurd (at_lt (subFI_old q).1) (Nat.not_lt.mpr (htg i hi))
  have loop : codeAny (model cx.prog cx.w) A (.compLoop (.ListComp pe [⟨target, iter, [], 0⟩] sc pos) 0 (.ref I) (.ref D) (subFI fi mc sc xs C).env) (RR (.ref D) C) { s₀ with heap := h₁, toks := tp + ([] : List (Str × Value)).length } := by
    refine codeAny_loop rfl (fun k s' => ∃ i t H' h' tk ys ws m, s' = { s₀ with heap := h', toks := tk } ∧ i ≤ cnt ∧ k = cnt + 1 - i ∧ It i h' ∧ HR cx H' h' ∧ LR cx (subFI fi mc sc xs C) (l ++ t) h' ∧ t.length = xs.length ∧
        Ext (fun b => b = C ∨ b = D ∨ b ∈ wr) H h₁ H' h' ∧ (∀ b ∈ wr, H' b = none) ∧ H' D = none ∧ Are cx.fa ys ws ∧ ys.length = i ∧ IsL h' D ws.toArray m ∧ src H' ∧ compS el keep (vals.drop i) ys H' Qf) (fun k s' hJ => ?_) (cnt + 1)
      ⟨0, _, H, h₁, _, [], [], 0, rfl, Nat.zero_le _, rfl, hI₁, R₁, LC, by simp, Ext.refl, fun b hb => (hw b hb).1, hD.1, .nil, rfl, hL, hsrc, hc⟩
    show wpAny _ _ ((compTurn (.ListComp pe [⟨target, iter, [], 0⟩] sc pos) 0 (.ref I) (.ref D) (subFI fi mc sc xs C).env).onRaise fun x => do noteFrame x (subFI fi mc sc xs C).env; theTreesLotGoes x) _ _ s'
    refine wpAny_noted ?_
    rw [compTurn_list1]
    refine wpAny_bind (wpAny_standAt (wpAny_bind ?_))
    obtain ⟨i, t, H', h', tk, ys, ws, m, rfl, hi, rfl, hI', R', L', ht, e', hw', hD', hys, hyl, hl', hs', hc'⟩ := hJ
    by_cases hlt : i < cnt
    · obtain ⟨v, hv⟩ : ∃ v, vals[i]? = some v := ⟨_, List.getElem?_eq_getElem (by exact o54 hlen hlt)⟩
      have hdr : vals.drop i = v :: vals.drop (i + 1) := by
        obtain ⟨a, rfl⟩ := List.getElem?_eq_some_iff.mp hv
        exact List.drop_eq_getElem_cons a
      rw [hdr] at hc'
      obtain ⟨t', ht', hlay, hev⟩ := hel i v t H' _ hv ht hc'
      refine wpAny_mono ((T C).one i (l ++ t) H' { s₀ with heap := h', toks := tk } (fun _ s₂ => wpAny (model cx.prog cx.w) A (eval pe (subFI fi mc sc xs C).env) (fun x s₄ =>
            wpAny (model cx.prog cx.w) A (call (.builtin "list.append") [.ref D, x]) (fun _ s₅ => ∃ m, m < cnt + 1 - i ∧ ∃ i t H' h' tk ys ws m', s₅ = { s₀ with heap := h', toks := tk } ∧ i ≤ cnt ∧ m = cnt + 1 - i ∧ It i h' ∧ HR cx H' h' ∧ LR cx (subFI fi mc sc xs C) (l ++ t) h' ∧ t.length = xs.length ∧
              Ext (fun b => b = C ∨ b = D ∨ b ∈ wr) H h₁ H' h' ∧ (∀ b ∈ wr, H' b = none) ∧ H' D = none ∧ Are cx.fa ys ws ∧ ys.length = i ∧ IsL h' D ws.toArray m' ∧ src H' ∧ compS el keep (vals.drop i) ys H' Qf)
            (notedBy (model cx.prog cx.w) A (subFI fi mc sc xs C).env fun e s' => RR (.ref D) C (.error e) s') s₄) (notedBy (model cx.prog cx.w) A (subFI fi mc sc xs C).env fun e s' => RR (.ref D) C (.error e) s') s₂)
          (notedBy (model cx.prog cx.w) A (subFI fi mc sc xs C).env fun e s' => RR (.ref D) C (.error e) s') hlt hs' R' L' hI' (fun b hb => ⟨hw' b hb, (hw b hb).2.1, wC b hb⟩) ?_) (fun r s₁ hr => ?_) fun _ _ e => e
      · intro h₂ tk₂ R₂ L₂ hI₂ e₂
        rw [hlay] at L₂
        have hl₂ : IsL h₂ D ws.toArray m := e₂.keep D _ hl' hD' fun q => q.elim (fun q => hDC (tgC _ q)) wD
        refine wp_then (s := { s₀ with heap := h₂, toks := tk₂ }) (he _ _ _ _ _ _ _ { s₀ with heap := h₂, toks := tk₂ } _ hm FC hA R₂ L₂ hev) fun y w H₃ h₃ tk₃ hy R₃ e₃ hq => ?_
        have hl₃ : IsL h₃ D ws.toArray m := e₃.keep D _ hl₂ hD' id
        have non : ∀ b, H' b = none → (∃ o, h₂.get? b = some o) → H₃ b = none := fun b hb ⟨o, ho⟩ => by
          cases q : H₃ b with
          | none => rfl
          | some ob =>
            rcases e₃.new b (by rw [q]; simp) with z | z
            · exact absurd hb z
            · rw [ho] at z; cases z
        have hD₃ : H₃ D = none := non D hD' ⟨_, hl₂⟩
        have hw₃ : ∀ b ∈ wr, H₃ b = none := fun b hb => non b (hw' b hb) (by
          cases q : h₂.get? b with
          | none => exact absurd q ((T C).live _ _ hI₂ b hb)
          | some o => exact ⟨o, rfl⟩)
        refine append_at (s := { s₀ with heap := h₃, toks := tk₃ }) (hsz := by simp only [List.size_toArray, hys.length, hyl]; exact Nat.le_trans hi (lim_le hcnt)) hl₃ fun h₄ hs₄ hl₄ => ?_
        have k₄ : ∀ b o, b ∉ [D] → h₃.get? b = some o → h₄.get? b = some o := fun b o hb e => (hs₄.2 b (by simpa using hb)).trans e
        have eq : ws.toArray.push w = (ws ++ [w]).toArray := by simp
        rw [eq] at hl₄
        refine ⟨cnt + 1 - (i + 1), by exact o40 hlt, i + 1, t', H₃, h₄, tk₃, ys ++ [y], ws ++ [w], _, rfl, hlt, rfl, (T C).frame _ _ _ hI₂ fun b hb o ho => k₄ b o (fun q => wD (List.mem_singleton.mp q ▸ hb)) (e₃.keep b o ho (hw' b hb) id), R₃.aside (fun b hb => by rw [List.mem_singleton.mp hb]; exact ⟨hD₃, hD.2.1⟩) k₄,
          (L₂.ext R₂ e₃).aside (fun b hb => by rw [List.mem_singleton.mp hb]; exact oD) k₄, ht', ?_, hw₃, hD₃, hys.append (.cons hy .nil), by simp [hyl], hl₄, hkeep _ hq.1, hq.2⟩
        refine ((e'.trans (e₂.mono fun b hb => hb.elim (fun q => .inl (tgC _ q)) fun q => .inr (.inr q))).trans e₃.weak).trans ((Ext.aside k₄ fun b hb => ?_).mono fun b hb => .inr (.inl (List.mem_singleton.mp hb)))
        rw [List.mem_singleton.mp hb, hl₄]; simp
      · cases r with
        | none => exact hr.elim
        | some v =>
          refine wpAny_bind (wpAny_mono hr (fun _ t₁ g₁ => wpAny_bind (wpAny_mono g₁ (fun _ t₂ g₂ => wpAny_bind (wpAny_bind (wpAny_mono g₂ (fun _ t₃ g₃ => wpAny_bind (wpAny_mono g₃ ?_ fun _ _ e => e)) fun _ _ e => e))) fun _ _ e => e)) fun _ _ e => e)
          exact fun _ _ g₄ => wpAny_pure (wpAny_pure ⟨rfl, g₄⟩)
    · obtain rfl : i = cnt := Nat.le_antisymm hi (Nat.not_lt.mp hlt)
      refine wpAny_mono ((T C).done H' { s₀ with heap := h', toks := tk } (fun r s₁ => r = none ∧ RR (.ref D) C (.ok .next) s₁) _ hs' R' hI' fun h₂ tk₂ k₂ => ⟨rfl, ?_⟩) (fun r s₁ hr => ?_) fun _ _ e => e
      rotate_left
      · obtain ⟨rfl, hr⟩ := hr
        exact wpAny_pure hr
      have e0 : Ext NoX H s₀.heap H' h' := (Ext.shrink (wr := C :: D :: wr) (X := NoX) (e'.mono fun b hb => .inr (by rcases hb with rfl | rfl | hb <;> simp [*])) (fun b o e => up₁ b o (k₀ b o e)) fun b hb => by
        rcases List.mem_cons.mp hb with rfl | hb
        · exact n₀ hC.2.2.2
        · rcases List.mem_cons.mp hb with rfl | hb
          · exact n₀ hD.2.2.2
          · exact (hw b hb).2.2.2)
      have e0' : Ext NoX H s₀.heap H' h₂ := ⟨fun b o g m' nx => k₂ b o (fun q => by rw [(hw b q).2.2.2] at g; cases g) (e0.keep b o g m' nx), e0.new, fun b g => by
        cases z : s₀.heap.get? b with
        | none => exact absurd z g
        | some o =>
          cases z' : h'.get? b with
          | none => exact absurd z' (e0.live b g)
          | some o' => rw [k₂ b o' (fun q => by rw [(hw b q).2.2.2] at z; cases z) z']; simp⟩
      have R₂ : HR cx H' h₂ := R'.aside (fun b hb => ⟨hw' b hb, (hw b hb).2.1⟩) k₂
      have hlD : IsL h₂ D ws.toArray m := k₂ D _ wD hl'
      obtain ⟨mC, hnC, -⟩ := (L'.aside (fun b hb => wC b hb) k₂).ns
      have hnil : vals.drop vals.length = [] := List.drop_eq_nil_of_le (Nat.le_refl _)
      rw [← hlen, hnil] at hc'
      exact hRR D C h₂ tk₂ H' ys mC hD' (R₂.adopt hD.2.1 ⟨ws, m, hys, hlD⟩) (L₀.ext R₀ e0') (e0'.adopt (n₀ hD.2.2.2)) hnC (by rw [AH.set_ne (Ne.symm hDC)]; exact L'.notIn R' (.inl rfl)) hC.2.1 hC.2.2.1 (n₀ hC.2.2.2) hc'
  exact codeAny_compStart_list loop (self _ _ _ hI₁ loop)
end Mine
end
section
open PySem PySem.Calls PySem.W PyProof.Rows PySem.Spec
set_option maxRecDepth 100000
namespace Mine
variable {cx : Cx} {n : Nat} {Φ : Phi}
noncomputable def CU (cx : Cx) (n : Nat) (Φ : Phi) (e : E) : Prop := ∀ (fi : FI) (mc : MC) (pe : Expr) (gens : List Comprehension) (sc : Scope) (pos : Pos) (l : Loc) (H : AH) (Q : PQ) (A : Around) (s : Shared) (Er : Value → Shared → Prop) (use : Option (Value → Sem Unit)) (Qr : Value → Shared → Prop),
  mE mc e (.ListComp pe gens sc pos) = true → FOk cx fi mc → AOk n A → HR cx H s.heap → LR cx fi l s.heap → evalS Φ e l H Q →
  (∀ (D C : Nat) h' tk H' m, HR cx H' h' → LR cx fi l h' → Ext NoX H s.heap H' h' → h'.Ns C m → H' C = none → cx.B.get? C = none → ¬ own fi C → s.heap.get? C = none → Q (.ref D) H' →
    compPost (model cx.prog cx.w) A Er use Qr (.ref D) C (.ok .next) { s with heap := h', toks := tk }) →
  wpAny (model cx.prog cx.w) A (comprehension (.ListComp pe gens sc pos) sc fi.env (firstIterPos gens pos) (newList []) (firstAsync gens) (firstIter gens fi.env) use) Qr Er s
theorem CU.se {e : E} (hc : CU cx n Φ e) (h : ∀ mc pe, mE mc e pe = true → ∃ p g sc pos, pe = .ListComp p g sc pos) : SE cx n Φ e := by
  intro fi mc pe l H Q A s Er hm F hA R L hs
  obtain ⟨p, g, sc, pos, rfl⟩ := h mc pe hm
  rw [eval_ListComp]
  refine hc fi mc p g sc pos l H Q A s Er none _ hm F hA R L hs fun D C h' tk H' m R' L' e' hn hC hB ho hf q => ?_
  refine ⟨m, hn, fun h'' hs'' => ?_⟩
  have k : ∀ b o, b ∉ [C] → h'.get? b = some o → h''.get? b = some o := fun b o hb e => (hs''.2 b (by simpa using hb)).trans e
  exact ⟨.ref D, H', h'', tk, rfl, .ref D, R'.aside (fun b hb => by rw [List.mem_singleton.mp hb]; exact ⟨hC, hB⟩) k, e'.side hf hs'', q⟩
theorem isVar_sub {fi : FI} {mc : MC} {sc : Scope} {xs : List Str} (F : FOk cx fi mc) (S : SubOk mc sc xs) {j : Nat} {x : Str} (h : xs[j]? = some x) : (mc.sub sc xs).isVar (fi.vars.length + j) x = true := by
  have : (mc.sub sc xs).names[fi.vars.length + j]? = some (some x) := by
    unfold MC.sub
    dsimp only
    rw [List.getElem?_append_right (by rw [List.length_map, F.len]; exact o55), List.length_map, F.len, Nat.add_sub_cancel_left, List.getElem?_map, h]
    rfl
  unfold MC.isVar
  rw [this, S.dbg x (List.mem_of_getElem? h)]
  simp
theorem set_tail1 {l : Loc} {a v : Option V} {i : Nat} (h : i = l.length) : (l ++ [a]).set i v = l ++ [v] := by
  subst h; rw [List.set_append_right _ _ (Nat.le_refl _)]; simp
theorem cu_L {src elt : E} (hs : SE cx n Φ src) (he : SE cx n Φ elt) : CU cx n Φ (.cmpL src elt) := by
  intro fi mc pe gens sc pos l H Q A s Er use Qr h F hA R L hev fin
  generalize hz : Expr.ListComp pe gens sc pos = z at h
  revert hz
  apply i_mE_cmpL h
  intro _ _ _ _ _ _ h
  intro q; cases q
  rename_i x px it
  simp only [Bool.and_eq_true] at h
  obtain ⟨⟨h1, h2⟩, h3⟩ := h
  have S := subOk_of h2
  refine wpAny_comprehension_free rfl (folded_of h1) (closureFor_cells fun p hp e => (F.cel p.1 (S.free p hp e)).2) S.kind S.loc ?_
  refine wp_then (hs _ _ _ _ _ _ _ _ _ h1 F hA R L hev) fun y w H₁ h₁ tk hy R₁ e₁ hq => ?_
  obtain ⟨r, xs, rfl, hr, hsz, hc⟩ := hq
  cases hy
  have L₁ := L.ext R e₁
  obtain ⟨ws, m, hv, hl⟩ := R₁.obs r _ hr
  refine wpAny_pyIter_list hl.isList ?_
  have up : ∀ b o, h₁.get? b = some o → (h₁.push { cls := .type "list_iterator", data := .fields #[.ref r, .int 0 0] }).get? b = some o := fun b o e => Heap.get?_push_of_some _ e
  obtain ⟨f1, f2, f3, f4⟩ := fresh_of R₁ L₁ (Nat.le_refl h₁.objs.size)
  have hvar := isVar_sub F S (j := 0) (x := x) rfl
  refine p_comp (s₀ := { s with heap := h₁, toks := tk }) (RR := compPost (model cx.prog cx.w) A Er use Qr) (fun C => trn_list (F.sub S (by simp)) hvar hA.hh) (fun s Q E hI q => wpAny_pyIter_listiter hI q) he h3 F S (by simp) hA R₁ L₁
    ⟨_, Heap.get?_push_size _ rfl, rfl, rfl⟩ ⟨_, _, rfl⟩ up (fun b hb => by rw [List.mem_singleton.mp hb]; exact ⟨f1, f2, f3, f4⟩) (fun i hi => by rw [List.mem_singleton.mp hi]; exact o56) hr (fun _ q => q) rfl hsz ?_ hc ?_
  · intro k v t H' Q' hk ht q
    obtain ⟨a, rfl⟩ : ∃ a, t = [a] := by
      match t, ht with
      | [a], _ => exact ⟨a, rfl⟩
    refine ⟨[some v], rfl, ?_, q⟩
    simp only [hk]
    exact set_tail1 (by rw [L.len]; rfl)
  · intro D C h' tk' H' ys m' hD R' L' e' hn hC hB ho hf q
    have hf' : s.heap.get? C = none := by
      cases z : s.heap.get? C with
      | none => rfl
      | some o => exact absurd hf (e₁.live C (by rw [z]; simp))
    exact fin D C h' tk' _ m' R' L' (e₁.trans e') hn hC hB ho hf' (q D hD)
theorem cu_R {r : R} {elt : E} (hr : SR cx n Φ r) (he : SE cx n Φ elt) : CU cx n Φ (.cmpR r elt) := by
  intro fi mc pe gens sc pos l H Q A s Er use Qr h F hA R L hev fin
  generalize hz : Expr.ListComp pe gens sc pos = z at h
  revert hz
  apply i_mE_cmpR h
  intro _ _ _ _ _ _ h
  intro q; cases q
  rename_i x px it
  simp only [Bool.and_eq_true] at h
  obtain ⟨⟨h1, h2⟩, h3⟩ := h
  have S := subOk_of h2
  refine wpAny_comprehension_free rfl (foldedR h1) (closureFor_cells fun p hp e => (F.cel p.1 (S.free p hp e)).2) S.kind S.loc ?_
  refine wpAny_mono (hr _ _ _ _ _ _ _ _ _ h1 F hA R L hev) (fun v s₁ p => ?_) fun _ _ e => e
  obtain ⟨lo, hi, st, H₁, h₁, tk, ra, t, u, w, rfl, rfl, hra, R₁, e₁, ok, hc⟩ := p
  have L₁ := L.ext R e₁
  refine wpAny_pyIter_range hra ok.2.2.1 ?_
  have hsz := rangeSize_nonneg (lo := lo) (hi := hi) ok.1
  have up : ∀ b o, h₁.get? b = some o → (h₁.push { cls := .type "range_iterator", data := .fields #[rawInt lo, rawInt (Builtin.Range.rangeSize lo hi st), rawInt st] }).get? b = some o := fun b o e => Heap.get?_push_of_some _ e
  obtain ⟨f1, f2, f3, f4⟩ := fresh_of R₁ L₁ (Nat.le_refl h₁.objs.size)
  have hvar := isVar_sub F S (j := 0) (x := x) rfl
  refine p_comp (s₀ := { s with heap := h₁, toks := tk }) (RR := compPost (model cx.prog cx.w) A Er use Qr) (fun C => trn_range (lo := lo) (st := st) (cnt := rangeLen lo hi st) (F.sub S (by simp)) hvar hA.hh) (fun s Q E hI q => wpAny_pyIter_rangeiter hI q) he h3 F S (by simp) hA R₁ L₁
    (by show IsRangeIter _ _ _ _ _; rw [hsz]; simpa using Heap.get?_push_size _ rfl) ⟨_, _, rfl⟩ up (fun b hb => by rw [List.mem_singleton.mp hb]; exact ⟨f1, f2, f3, f4⟩) (fun i hi => by rw [List.mem_singleton.mp hi]; exact o56) trivial (fun _ _ => trivial) (by simp [rangeVs]) ok.2.2.2 ?_ hc ?_
  · intro k v t H' Q' hk ht q
    obtain ⟨a, rfl⟩ : ∃ a, t = [a] := by
      match t, ht with
      | [a], _ => exact ⟨a, rfl⟩
    refine ⟨[some v], rfl, ?_, q⟩
    have hv : v = .int (lo + (k : Int) * st) := by
      unfold rangeVs at hk
      rw [List.getElem?_map] at hk
      cases z : (List.range (rangeLen lo hi st))[k]? with
      | none => rw [z] at hk; cases hk
      | some j =>
        rw [z] at hk
        obtain ⟨_, rfl⟩ := List.getElem?_eq_some_iff.mp z
        simp at hk
        exact hk.symm
    rw [hv]
    exact set_tail1 (by rw [L.len]; rfl)
  · intro D C h' tk' H' ys m' hD R' L' e' hn hC hB ho hf q
    have hf' : s.heap.get? C = none := by
      cases z : s.heap.get? C with
      | none => rfl
      | some o => exact absurd hf (e₁.live C (by rw [z]; simp))
    exact fin D C h' tk' _ m' R' L' (e₁.trans e') hn hC hB ho hf' (q D hD)
theorem cu_E (B : BOk cx) {src elt : E} (hs : SE cx n Φ src) (he : SE cx n Φ elt) : CU cx n Φ (.cmpE src elt) := by
  intro fi mc pe gens sc pos l H Q A s Er use Qr h F hA R L hev fin
  generalize hz : Expr.ListComp pe gens sc pos = z at h
  revert hz
  apply i_mE_cmpE h
  intro _ _ _ _ _ _ _ _ _ _ _ _ _ h
  intro q; cases q
  rename_i x px y py kk tp f fp it ip
  simp only [Bool.and_eq_true, bne_iff_ne] at h
  obtain ⟨⟨⟨⟨h0, h1⟩, hxy⟩, h2⟩, h3⟩ := h
  have S := subOk_of h2
  refine wpAny_comprehension_free rfl (fun _ => rfl) (closureFor_cells fun p hp e => (F.cel p.1 (S.free p hp e)).2) S.kind S.loc ?_
  refine blt1t B hs h0 h1 (by simp) PyProof.Rows.Boot.«enumerate» F hA R L hev fun v w H₁ h₁ tk hy R₁ e₁ hq => ?_
  obtain ⟨r, xs, rfl, hr, hsz, hc⟩ := hq
  cases hy
  have L₁ := L.ext R e₁
  obtain ⟨ws, m, hv, hl⟩ := R₁.obs r _ hr
  have hrl : r < h₁.objs.size := Heap.lt_size hl
  refine call_enumerate_list (s := { s with heap := h₁, toks := tk }) hl.isList fun h₂ hE hI hz up => ?_
  refine wpAny_pyIter_enum (s := { s with heap := h₂, toks := tk }) hE ?_
  have hnd : [x, y].Nodup := by simp [hxy]
  have hvx := isVar_sub F S (j := 0) (x := x) rfl
  have hvy := isVar_sub F S (j := 1) (x := y) rfl
  refine p_comp (s₀ := { s with heap := h₁, toks := tk }) (RR := compPost (model cx.prog cx.w) A Er use Qr) (fun C => trn_enum (n := n) (xs := xs) (r := r) (F.sub S hnd) hvx hvy hA (Nat.succ_ne_self _) (by show r ≠ h₁.objs.size + 1; exact o50 hrl) (by show r ≠ h₁.objs.size; exact o51 hrl))
    (fun s Q E hI q => by obtain ⟨⟨old, hE'⟩, -⟩ := hI; exact wpAny_pyIter_enum hE' q) he h3 F S hnd hA R₁ L₁
    ⟨⟨_, hE⟩, hI⟩ ⟨_, _, rfl⟩ up (fun b hb => ?_) (fun i hi => by simp only [List.mem_cons, List.not_mem_nil, or_false] at hi; exact o57 hi) hr (fun _ q => q) (by simp) hsz ?_ hc ?_
  · simp only [List.mem_cons, List.not_mem_nil, or_false] at hb
    rcases hb with rfl | rfl
    · exact fresh_of R₁ L₁ (Nat.le_succ _)
    · exact fresh_of R₁ L₁ (Nat.le_refl _)
  · intro k v t H' Q' hk ht q
    obtain ⟨a, b, rfl⟩ : ∃ a b, t = [a, b] := by
      match t, ht with
      | [a, b], _ => exact ⟨a, b, rfl⟩
    obtain ⟨i, z, rfl, hz', q⟩ := q
    have hki : i = (k : Int) := by
      rw [List.getElem?_map] at hk
      cases z : (List.range xs.length)[k]? with
      | none => rw [z] at hk; cases hk
      | some j =>
        rw [z] at hk
        obtain ⟨_, rfl⟩ := List.getElem?_eq_some_iff.mp z
        simp at hk
        exact hk.symm
    subst hki
    rw [Int.toNat_natCast] at hz'
    refine ⟨[some (.int (k : Int)), some z], rfl, ?_, q⟩
    simp only [hz']
    rw [← L.len, List.set_append_right _ _ (by exact o56), List.set_append_right _ _ (by exact o58)]
    simp
  · intro D C h' tk' H' ys m' hD R' L' e' hn hC hB ho hf q
    have hf' : s.heap.get? C = none := by
      cases z : s.heap.get? C with
      | none => rfl
      | some o => exact absurd hf (e₁.live C (by rw [z]; simp))
    exact fin D C h' tk' _ m' R' L' (e₁.trans e') hn hC hB ho hf' (q D hD)
theorem sS_asgC {i : Nat} {e : E} (he : CU cx n Φ e) (hes : SE cx n Φ e) : ∀ (fi : FI) (mc : MC) (x : Str) (p : Pos) (pe : Expr) (gens : List Comprehension) (sc : Scope) (cp pos : Pos) (l : Loc) (H : AH) (K : KQ) (A : Around) (s : Shared) Er,
    mc.isVar i x = true → mE mc e (.ListComp pe gens sc cp) = true → FOk cx fi mc → AOk n A → HR cx H s.heap → LR cx fi l s.heap → execS Φ (.asg i e) l H K → wpAny (model cx.prog cx.w) A (exec (.Assign [.Name x p] (.ListComp pe gens sc cp) pos) fi.env) (SPst cx fi H s K) Er s := by
  intro fi mc x p pe gens sc cp pos l H K A s Er hx hv F hA R L hs
  have hsw : swapsWith (.ListComp pe gens sc cp) (some (.Name x p)) pos.line fi.env = pure false ∨ swapsWith (.ListComp pe gens sc cp) (some (.Name x p)) pos.line fi.env = pure true := by
    have : ∃ b, swapsWith (.ListComp pe gens sc cp) (some (.Name x p)) pos.line fi.env = pure b := ⟨_, rfl⟩
    obtain ⟨b, hb⟩ := this
    cases b
    · exact .inl hb
    · exact .inr hb
  rcases hsw with hsw | hsw
  · refine wpAny_Assign_Name (wp_then (hes _ _ _ _ _ _ _ _ _ hv F hA R L hs) fun y w H₁ h₁ tk hy R₁ e₁ hs₁ => ?_) hsw
    exact p_store (s := { s with heap := h₁, toks := tk }) F R₁ (L.ext R e₁) hx hy fun h' tk' R' L' e' => SPst.next R' L' (e₁.weak.trans (e'.mono fun _ h => h.own)) hs₁
  · rw [exec_Assign_Name_used _ _ _ _ hsw]
    refine wpAny_bind (wpAny_standAt (wpAny_bind ?_))
    show wpAny _ A (do let _ ← comprehension (.ListComp pe gens sc cp) sc fi.env _ (newList []) (firstAsync gens) (firstIter gens fi.env) (some (assign (.Name x p) fi.env))) _ _ s
    refine wpAny_bind (wpAny_mono (he fi mc pe gens sc cp l H _ A s Er (some (assign (.Name x p) fi.env)) (fun _ s' => SPst cx fi H s K .next s') hv F hA R L hs fun D C h' tk H' m R' L' e' hn hC hB ho hf q => ?_) (fun _ s' hq => wpAny_pure (wpAny_pure hq)) fun _ _ e => e)
    show wpAny _ A (assign (.Name x p) fi.env (.ref D)) _ _ _
    refine wpAny_assign_Name (p_store (s := { s with heap := h', toks := tk }) F R' L' hx (.ref D) fun h₂ tk₂ R₂ L₂ e₂ => ?_)
    obtain ⟨o, es, ep, hoC, hdC, hrest⟩ := hn
    have hn₂ : h₂.Ns C m := ⟨o, es, ep, e₂.keep C o hoC hC fun q => ho q.own, hdC, hrest⟩
    refine ⟨m, hn₂, fun h'' hs'' => ?_⟩
    have k : ∀ b o, b ∉ [C] → h₂.get? b = some o → h''.get? b = some o := fun b o hb e => (hs''.2 b (by simpa using hb)).trans e
    exact SPst.next (R₂.aside (fun b hb => by rw [List.mem_singleton.mp hb]; exact ⟨hC, hB⟩) k) (L₂.aside (fun b hb => by rw [List.mem_singleton.mp hb]; exact ho) k) ((e'.weak.trans (e₂.mono fun _ h => h.own)).side hf hs'') q
end Mine
end
section
open PySem PySem.Calls PySem.W PyProof.Rows PySem.Spec
set_option maxRecDepth 100000
namespace Mine
variable {cx : Cx} {n : Nat} {Φ : Phi}
theorem cu_no {e : E} (h : ∀ mc pe gens sc pos, mE mc e (.ListComp pe gens sc pos) = false) : CU cx n Φ e := by
  intro fi mc pe gens sc pos l H Q A s Er use Qr hm
  rw [h] at hm; cases hm
theorem sE_cmpL {src elt : E} (h : CU cx n Φ (.cmpL src elt)) : SE cx n Φ (.cmpL src elt) := h.se fun mc pe h => by
  apply i_mE_cmpL h
  intro _ _ _ _ _ _ h
  exact ⟨_, _, _, _, rfl⟩
theorem sE_cmpE {src elt : E} (h : CU cx n Φ (.cmpE src elt)) : SE cx n Φ (.cmpE src elt) := h.se fun mc pe h => by
  apply i_mE_cmpE h
  intro _ _ _ _ _ _ _ _ _ _ _ _ _ h
  exact ⟨_, _, _, _, rfl⟩
theorem sE_cmpR {r : R} {elt : E} (h : CU cx n Φ (.cmpR r elt)) : SE cx n Φ (.cmpR r elt) := h.se fun mc pe h => by
  apply i_mE_cmpR h
  intro _ _ _ _ _ _ h
  exact ⟨_, _, _, _, rfl⟩
theorem sS_asg_all {i : Nat} {e : E} (hc : CU cx n Φ e) (he : SE cx n Φ e) : SS cx n Φ (.asg i e) := by
  intro fi mc ps l H K A s Er h F hA R L hs
  apply i_mS_asg h
  intro _ _ _ _ h
  simp only [Bool.and_eq_true] at h
  rename_i x p v pos
  cases hv : isComp v with
  | false => exact sS_asg he _ _ _ _ _ _ _ _ _ _ _ _ h.1 h.2 hv F hA R L hs
  | true =>
    cases v <;> first | (cases hv; done) | skip
    · exact sS_asgC hc he _ _ _ _ _ _ _ _ _ _ _ _ _ _ _ h.1 h.2 F hA R L hs
    · have h2 := h.2
      exact absurd (mE_idx h2) Bool.false_ne_true
    · have h2 := h.2
      exact absurd (mE_idx h2) Bool.false_ne_true
mutual
theorem aE (B : BOk cx) (P : Ph cx n Φ) : ∀ e : E, SE cx n Φ e ∧ CU cx n Φ e
  | .var i => ⟨sE_var, cu_no (by intros; rfl)⟩
  | .fn k => ⟨sE_fn B, cu_no (by intros; rfl)⟩
  | .int i => ⟨sE_int, cu_no (by intros; rfl)⟩
  | .boo b => ⟨sE_boo, cu_no (by intros; rfl)⟩
  | .bin op a b => ⟨sE_bin (aE B P a).1 (aE B P b).1, cu_no (by intros; rfl)⟩
  | .neg a => ⟨sE_neg (aE B P a).1, cu_no (by intros; rfl)⟩
  | .cmp op a b => ⟨sE_cmp (aE B P a).1 (aE B P b).1, cu_no (by intros; rfl)⟩
  | .ite c a b => ⟨sE_ite (aC B P c) (aE B P a).1 (aE B P b).1, cu_no (by intros; rfl)⟩
  | .idx a i => ⟨sE_idx (aE B P a).1 (aE B P i).1, cu_no (by intros; rfl)⟩
  | .slT a b => ⟨sE_slT (aE B P a).1 (aE B P b).1, cu_no (by intros; rfl)⟩
  | .slF a b => ⟨sE_slF (aE B P a).1 (aE B P b).1, cu_no (by intros; rfl)⟩
  | .slB a b c => ⟨sE_slB (aE B P a).1 (aE B P b).1 (aE B P c).1, cu_no (by intros; rfl)⟩
  | .slA a => ⟨sE_slA (aE B P a).1, cu_no (by intros; rfl)⟩
  | .rev a => ⟨sE_rev (aE B P a).1, cu_no (by intros; rfl)⟩
  | .lst es => ⟨sE_lst (aEs B P es), cu_no (by intros; rfl)⟩
  | .tup es => ⟨sE_tup (aEs B P es), cu_no (by intros; rfl)⟩
  | .call f es => ⟨sE_call B P (aE B P f).1 (aEs B P es), cu_no (by intros; rfl)⟩
  | .len a => ⟨sE_len B (aE B P a).1, cu_no (by intros; rfl)⟩
  | .abs a => ⟨sE_abs B (aE B P a).1, cu_no (by intros; rfl)⟩
  | .toi a => ⟨sE_toi B (aE B P a).1, cu_no (by intros; rfl)⟩
  | .sum a => ⟨sE_sum B (aE B P a).1, cu_no (by intros; rfl)⟩
  | .min a b => ⟨sE_min B (aE B P a).1 (aE B P b).1, cu_no (by intros; rfl)⟩
  | .max a b => ⟨sE_max B (aE B P a).1 (aE B P b).1, cu_no (by intros; rfl)⟩
  | .bitlen a => ⟨sE_bitlen (aE B P a).1, cu_no (by intros; rfl)⟩
  | .cmpL src elt => have h := cu_L (aE B P src).1 (aE B P elt).1; ⟨sE_cmpL h, h⟩
  | .cmpE src elt => have h := cu_E B (aE B P src).1 (aE B P elt).1; ⟨sE_cmpE h, h⟩
  | .cmpR r elt => have h := cu_R (aR B P r) (aE B P elt).1; ⟨sE_cmpR h, h⟩
theorem aR (B : BOk cx) (P : Ph cx n Φ) : ∀ r : R, SR cx n Φ r
  | .r1 a => sR_r1 B (aE B P a).1
  | .r2 a b => sR_r2 B (aE B P a).1 (aE B P b).1
  | .r3 a b c => sR_r3 B (aE B P a).1 (aE B P b).1 (aE B P c).1
theorem aC (B : BOk cx) (P : Ph cx n Φ) : ∀ c : C, SC cx n Φ c
  | .cmp op a b => sC_cmp (aE B P a).1 (aE B P b).1
  | .cmp2 o₁ o₂ a b c => sC_cmp2 (aE B P a).1 (aE B P b).1 (aE B P c).1
  | .and a b => sC_and (aC B P a) (aC B P b)
  | .or a b => sC_or (aC B P a) (aC B P b)
  | .not a => sC_not (aC B P a)
theorem aEs (B : BOk cx) (P : Ph cx n Φ) : ∀ es : Es, SEs cx n Φ es
  | .nil => sEs_nil
  | .cons e r => sEs_cons (aE B P e).1 (aEs B P r)
end
mutual
theorem aS (B : BOk cx) (P : Ph cx n Φ) : ∀ st : S, SS cx n Φ st
  | .asg i e => sS_asg_all (aE B P e).2 (aE B P e).1
  | .asgT is e => sS_asgT (aE B P e).1
  | .asgTT is es => sS_asgTT (aEs B P es)
  | .setIdx a i v => sS_setIdx (aE B P a).1 (aE B P i).1 (aE B P v).1
  | .aug i op e => sS_aug (aE B P e).1
  | .app a v => sS_app (aE B P a).1 (aE B P v).1
  | .rever a => sS_rever (aE B P a).1
  | .ifs c t e => sS_ifs (aC B P c) (aSs B P t) (aSs B P e)
  | .whl c b => sS_whl (aC B P c) (aSs B P b)
  | .forR i r b => sS_forR (aR B P r) (aSs B P b)
  | .forL i e b => sS_forL (aE B P e).1 (aSs B P b)
  | .forE i j e b => sS_forE B (aE B P e).1 (aSs B P b)
  | .ret e => sS_ret (aE B P e).1
  | .exp e => sS_exp (aE B P e).1
  | .bad => sS_bad
theorem aSs (B : BOk cx) (P : Ph cx n Φ) : ∀ st : Ss, SSs cx n Φ st
  | .nil => sSs_nil
  | .cons s r => sSs_cons (aS B P s) (aSs B P r)
end
end Mine
end
section
open PySem PySem.Calls PySem.W PyProof.Rows PySem.Spec
set_option maxRecDepth 100000
namespace Mine
variable {cx : Cx} {n : Nat} {Φ : Phi}
theorem zip_lookup_some {α : Type} : ∀ {ps : List Str} {vs : List α}, ps.length = vs.length → ∀ x ∈ ps, ((ps.zip vs).lookup x).isNone = false
  | [], _, _, _, h => by cases h
  | p :: ps, [], hl, _, _ => by simp at hl
  | p :: ps, v :: vs, hl, x, hx => by
    rw [List.zip_cons_cons, List.lookup_cons]
    cases hb : x == p with
    | true => rfl
    | false =>
      refine zip_lookup_some (by simpa using hl) x ?_
      rcases List.mem_cons.mp hx with rfl | hx
      · simp at hb
      · exact hx
theorem zip_filterMap {α : Type} : ∀ {ps : List Str} {vs : List α}, ps.Nodup → ps.length = vs.length → ps.filterMap (fun n => ((ps.zip vs).lookup n).map (n, ·)) = ps.zip vs
  | [], _, _, _ => rfl
  | p :: ps, [], _, hl => by simp at hl
  | p :: ps, v :: vs, hn, hl => by
    obtain ⟨h1, h2⟩ := List.nodup_cons.mp hn
    rw [List.zip_cons_cons, List.filterMap_cons]
    have e : (List.lookup p ((p, v) :: ps.zip vs)) = some v := by simp
    rw [e]
    simp only [Option.map_some]
    congr 1
    have ih := zip_filterMap (ps := ps) (vs := vs) h2 (by simpa using hl)
    conv => rhs; rw [← ih]
    have aux : ∀ qs : List Str, (∀ q ∈ qs, q ≠ p) → qs.filterMap (fun n => (List.lookup n ((p, v) :: ps.zip vs)).map (n, ·)) = qs.filterMap (fun n => ((ps.zip vs).lookup n).map (n, ·)) := by
      intro qs
      induction qs with
      | nil => intro _; rfl
      | cons q qs ih =>
        intro h
        rw [List.filterMap_cons, List.filterMap_cons, ih fun r hr => h r (.tail _ hr)]
        have : (q == p) = false := beq_false_of_ne (h q (.head _))
        rw [List.lookup_cons, this]
    exact aux ps fun q hq e => h1 (e ▸ hq)
theorem bind_plain {fd : FuncData} {ps : List Str} {vals : List Value} (h1 : fd.params.posonlyargs = []) (h2 : fd.params.args.map (·.arg) = ps) (h3 : fd.params.kwonlyargs = []) (h4 : fd.params.vararg = none) (h5 : fd.params.kwarg = none)
    (h6 : fd.defaults = .none) (hn : ps.Nodup) (hl : ps.length = vals.length) : bindArgs fd ⟨vals, []⟩ = pure (ps.zip vals) := by
  unfold bindArgs
  have hm : (ps.filter fun n => ((ps.zip vals).lookup n).isNone) = [] := List.filter_eq_nil_iff.mpr fun x hx => by rw [zip_lookup_some hl x hx]; simp
  simp only [h1, h2, h3, h4, h5, h6, List.map_nil, List.nil_append, List.append_nil, List.forIn_nil, seqItems?, pure_bind, hl, gt_iff_lt, Nat.lt_irrefl, decide_false, Bool.false_and, Bool.false_eq_true, if_false, List.length_nil]
  have hm' : (List.take vals.length ps).filter (fun n => ((ps.zip vals).lookup n).isNone) = [] := by rw [List.take_of_length_le (by exact o37 hl)]; exact hm
  simp [hm', zip_filterMap hn hl]
  rfl
theorem bindL_notin {k : Str → Option NameKind} : ∀ (bs : List (Str × Value)) (m : Str → Option Value) (x : Str), x ∉ bs.map (·.1) → bindL k bs m x = m x
  | [], _, _, _ => rfl
  | (y, v) :: bs, m, x, h => by
    simp only [List.map_cons, List.mem_cons, not_or] at h
    unfold bindL
    rw [bindL_notin bs _ x h.2]
    split
    · exact if_neg h.1
    · rfl
theorem bindC_notin {k : Str → Option NameKind} : ∀ (bs : List (Str × Value)) (m : Str → Option Value) (x : Str), x ∉ bs.map (·.1) → bindC k bs m x = m x
  | [], _, _, _ => rfl
  | (y, v) :: bs, m, x, h => by
    simp only [List.map_cons, List.mem_cons, not_or] at h
    unfold bindC
    rw [bindC_notin bs _ x h.2]
    split
    · rfl
    · exact if_neg h.1
theorem zip_fst_notin {ps : List Str} {vs : List Value} {x : Str} (h : x ∉ ps) : x ∉ (ps.zip vs).map (·.1) := fun q => by
  obtain ⟨p, hp, rfl⟩ := List.mem_map.mp q
  exact h (List.of_mem_zip hp).1
theorem bindL_at {k : Str → Option NameKind} : ∀ {ps : List Str} {vals : List Value} {m : Str → Option Value} {i : Nat} {x : Str} {w : Value}, ps.Nodup → ps[i]? = some x → vals[i]? = some w → k x = some .local → bindL k (ps.zip vals) m x = some w
  | [], _, _, _, _, _, _, h, _, _ => by simp at h
  | p :: ps, [], _, _, _, _, _, _, h, _ => by simp at h
  | p :: ps, v :: vs, m, i, x, w, hn, hp, hv, hk => by
    obtain ⟨h1, h2⟩ := List.nodup_cons.mp hn
    rw [List.zip_cons_cons]
    unfold bindL
    cases i with
    | zero =>
      simp only [List.getElem?_cons_zero, Option.some.injEq] at hp hv
      subst hp hv
      rw [bindL_notin _ _ _ (zip_fst_notin h1), if_pos hk]
      simp
    | succ i => exact bindL_at h2 (by simpa using hp) (by simpa using hv) hk
theorem bindC_at {k : Str → Option NameKind} : ∀ {ps : List Str} {vals : List Value} {m : Str → Option Value} {i : Nat} {x : Str} {w : Value}, ps.Nodup → ps[i]? = some x → vals[i]? = some w → k x ≠ some .local → bindC k (ps.zip vals) m x = some w
  | [], _, _, _, _, _, _, h, _, _ => by simp at h
  | p :: ps, [], _, _, _, _, _, _, h, _ => by simp at h
  | p :: ps, v :: vs, m, i, x, w, hn, hp, hv, hk => by
    obtain ⟨h1, h2⟩ := List.nodup_cons.mp hn
    rw [List.zip_cons_cons]
    unfold bindC
    cases i with
    | zero =>
      simp only [List.getElem?_cons_zero, Option.some.injEq] at hp hv
      subst hp hv
      rw [bindC_notin _ _ _ (zip_fst_notin h1), if_neg hk]
      simp
    | succ i => exact bindC_at h2 (by simpa using hp) (by simpa using hv) hk
theorem Are.get' {fa : Nat → Addr} {vs : List V} {ws : List Value} (h : Are fa vs ws) {i : Nat} {v : V} {w : Value} (hv : vs[i]? = some v) (hw : ws[i]? = some w) : VR fa v w := by
  obtain ⟨w', h1, h2⟩ := h.get hv
  rw [hw] at h1; cases h1; exact h2
structure DefOk (fns : List Str) (d : FD) (names : List Str) (r : DefRec) : Prop where
  len : names.length = d.nvars
  le : d.nargs ≤ d.nvars
  nd : names.Nodup
  pos : r.params.posonlyargs = []
  arg : r.params.args.map (·.arg) = names.take d.nargs
  kwo : r.params.kwonlyargs = []
  va : r.params.vararg = none
  kwa : r.params.kwarg = none
  loc : ∀ x ∈ names, r.scope.names.lookup x = some .local ∨ r.scope.names.lookup x = some .cell
  kind : r.scope.kind = .function
  co : r.scope.isCoroutine = false
  gen : r.scope.isGenerator = false
  body : mSs ⟨names.map some, r.scope, fns⟩ d.body r.body = true
noncomputable def callAcc (sc : Scope) (L : Addr) (x : Str) : Acc := match (cellsFrom (L + 1) sc.names []).lookup x, sc.names.lookup x with
  | some c, some .cell => .cell c
  | _, _ => .loc
noncomputable def callFI (fd : FuncData) (L a : Addr) (names : List Str) : FI := ⟨callEnvC fd L a, names.map fun x => (x, callAcc fd.scope L x)⟩
theorem callFI_at {fd : FuncData} {L a : Addr} {names : List Str} {i : Nat} {x : Str} {acc : Acc} (h : (callFI fd L a names).at i = some (x, acc)) : names[i]? = some x ∧ acc = callAcc fd.scope L x := by
  unfold callFI FI.at at h
  dsimp only at h
  rw [List.getElem?_map] at h
  cases q : names[i]? with
  | none => rw [q] at h; cases h
  | some y => rw [q] at h; cases h; exact ⟨rfl, rfl⟩
theorem callAcc_cell {sc : Scope} {L : Addr} {x : Str} {c : Addr} (h : callAcc sc L x = .cell c) : sc.names.lookup x = some .cell ∧ (cellsFrom (L + 1) sc.names []).lookup x = some c := by
  unfold callAcc at h
  split at h
  · rename_i h1 h2; cases h; exact ⟨h2, h1⟩
  · cases h
theorem callAcc_loc {sc : Scope} {L : Addr} {x : Str} (h : callAcc sc L x = .loc) (hx : sc.names.lookup x = some .local ∨ sc.names.lookup x = some .cell) : sc.names.lookup x = some .local := by
  rcases hx with hx | hx
  · exact hx
  · obtain ⟨c, hc⟩ := Option.isSome_iff_exists.mp (cells_isSome _ hx)
    unfold callAcc at h
    split at h
    · cases h
    · rename_i q; exact absurd hx (q c hc)
theorem FOk.call {fns : List Str} {d : FD} {names : List Str} {r : DefRec} {pm code doc : Value} {L a : Addr} (D : DefOk fns d names r) (hf : cx.fns = fns) {s₀ s₁ : Shared} {m cm : Str → Option Value}
    (x : InCallC s₀ (callEnvC (docDef r.name r.params r.body r.scope pm code doc) L a).locals m (callEnvC (docDef r.name r.params r.body r.scope pm code doc) L a).cells cm s₁) :
    FOk cx (callFI (docDef r.name r.params r.body r.scope pm code doc) L a names) ⟨names.map some, r.scope, fns⟩ where
  kind := D.kind
  glob := rfl
  blt := rfl
  fns := hf.symm
  var i y h := by
    rw [List.getElem?_map] at h
    cases q : names[i]? with
    | none => rw [q] at h; cases h
    | some z =>
      rw [q] at h; cases h
      refine ⟨callAcc r.scope L y, ?_, ?_⟩
      · unfold callFI FI.at
        dsimp only
        rw [List.getElem?_map, q]; rfl
      · cases z : callAcc r.scope L y with
        | loc => exact .inl rfl
        | cell c => exact .inr ⟨c, rfl⟩
        | hid => unfold callAcc at z; split at z <;> cases z
  loc i y h := by
    obtain ⟨h1, h2⟩ := callFI_at h
    exact callAcc_loc h2.symm (D.loc y (List.mem_of_getElem? h1))
  cell i y c h := by
    obtain ⟨h1, h2⟩ := callFI_at h
    obtain ⟨h3, h4⟩ := callAcc_cell h2.symm
    exact ⟨.inl h3, h4⟩
  injL i j y hi hj := nodup_inj D.nd (callFI_at hi).1 (callFI_at hj).1
  injC i j y z c hi hj := by
    obtain ⟨h1, h2⟩ := callFI_at hi
    obtain ⟨h3, h4⟩ := callFI_at hj
    have e := PySem.name_of_addr x.apart (PySem.mem_of_lookup (callAcc_cell h2.symm).2) (PySem.mem_of_lookup (callAcc_cell h4.symm).2)
    subst e
    exact nodup_inj D.nd h1 h3
  gk y h := by
    unfold MC.glob at h
    simp only [Bool.and_eq_true, beq_iff_eq] at h
    exact h.1
  len := by simp [callFI]
  cel y h := ⟨h, Option.isSome_iff_exists.mp (cells_isSome _ h)⟩
noncomputable def TabIs (cx : Cx) (defs : List FD) : Prop := ∀ k d, defs[k]? = some d → ∃ names r o pm code doc, DefOk cx.fns d names r ∧ cx.B.get? (cx.fa k) = some o ∧ o.data = .func (docDef r.name r.params r.body r.scope pm code doc) ∧ cx.B.CodeRec code r.name
theorem ph_code {defs : List FD} (B : BOk cx) (hlim : cx.B.NoLimit) (D : TabIs cx defs) {n : Nat} (ih : Ph cx n (callS defs n)) {k : Nat} {vs : List V} {H : AH} {Q : PQ} (h : callS defs (n + 1) k vs H Q)
    {A : Around} {s : Shared} {Er : Value → Shared → Prop} {vals : List Value} (hA : AOk (n + 1) A) (R : HR cx H s.heap) (hv : Are cx.fa vs vals) :
    codeAny (model cx.prog cx.w) A (.call (.ref (cx.fa k)) ⟨vals, []⟩) (fun r s' => match r with | .ok (.ret v) => Pst (VR cx.fa) cx H s Q v s' | .ok _ => False | .error e => Er e s') s := by
    obtain ⟨d, hd, hl, hs⟩ := h
    obtain ⟨names, r, o, pm, code, doc, D, ho, hod, hcd⟩ := D k d hd
    have hpl : (names.take d.nargs).length = vals.length := by rw [List.length_take, hv.length, hl, D.len]; have := D.le; exact o59 this
    have hnd : (names.take d.nargs).Nodup := D.nd.sublist (List.take_sublist _ _)
    refine codeAny_call_cells (fd := docDef r.name r.params r.body r.scope pm code doc) (by have := hA.depth; exact o60 this) (R.base _ _ ho) hod (hlim.keeps R.base) (hcd.keeps R.base) rfl
      (bind_plain D.pos D.arg D.kwo D.va D.kwa rfl hnd hpl) rfl (fun y hy => ?_) (fun s₁ x => ?_) D.co D.gen D.kind
    · have hy' : y.1 ∈ names := List.mem_of_mem_take (List.of_mem_zip hy).1
      rcases D.loc _ hy' with q | q
      · exact .inl q
      · exact .inr ⟨q, cells_isSome _ q⟩
    · have F := FOk.call (cx := cx) (L := s.heap.objs.size) (a := cx.fa k) D rfl x
      obtain ⟨h₁, tk, rfl⟩ := x.toInCall.same
      obtain ⟨R₁, e₁⟩ := R.grow x.toInCall.keep
      have nB : ∀ b, s.heap.objs.size ≤ b → cx.B.get? b = none := fun b hb => by
        cases q : cx.B.get? b with
        | none => rfl
        | some o => exact absurd (Heap.lt_size (R.base b o q)) (Nat.not_lt.mpr hb)
      have above : ∀ i y c, (callFI (docDef r.name r.params r.body r.scope pm code doc) s.heap.objs.size (cx.fa k) names).at i = some (y, Acc.cell c) → s.heap.objs.size < c := fun i y c hi => by
        obtain ⟨h1, h2⟩ := callFI_at hi
        exact x.above y c (PySem.mem_of_lookup (callAcc_cell h2.symm).2)
      have lget : ∀ i y, names[i]? = some y → (∃ v w, vs[i]? = some v ∧ vals[i]? = some w ∧ VR cx.fa v w ∧ (names.take d.nargs)[i]? = some y ∧ (vs.map some ++ List.replicate (d.nvars - d.nargs) none : Loc).getD i none = some v) ∨
          (vs.map some ++ List.replicate (d.nvars - d.nargs) none : Loc).getD i none = none := fun i y hy => by
        by_cases hi : i < d.nargs
        · obtain ⟨v, hv'⟩ : ∃ v, vs[i]? = some v := ⟨_, List.getElem?_eq_getElem (by exact o54 hl hi)⟩
          obtain ⟨w, hw, hvw⟩ := hv.get hv'
          refine .inl ⟨v, w, hv', hw, hvw, ?_, ?_⟩
          · rw [List.getElem?_take, if_pos hi]; exact hy
          · rw [List.getD, List.getElem?_append_left (by rw [List.length_map, hl]; exact hi), List.getElem?_map, hv']; rfl
        · refine .inr ?_
          rw [List.getD, List.getElem?_append_right (by rw [List.length_map, hl]; exact o61 hi), List.getElem?_replicate]
          split <;> rfl
      have L₁ : LR cx (callFI (docDef r.name r.params r.body r.scope pm code doc) s.heap.objs.size (cx.fa k) names) (vs.map some ++ List.replicate (d.nvars - d.nargs) none) h₁ := by
        refine ⟨⟨_, x.toInCall.ns, fun i y hi => ?_⟩, fun i y c hi => ?_, nB _ (Nat.le_refl _), fun i y c hi => nB _ (Nat.le_of_lt (above i y c hi)), by simp [callFI, hl, D.len]; have := D.le; exact o62 this⟩
        · obtain ⟨h1, h2⟩ := callFI_at hi
          rcases lget i y h1 with ⟨v, w, hv1, hw1, hvw, hp, e⟩ | e
          · rw [e, bindL_at hnd hp hw1 (callAcc_loc h2.symm (D.loc y (List.mem_of_getElem? h1)))]
            exact hvw
          · rw [e]; trivial
        · obtain ⟨h1, h2⟩ := callFI_at hi
          obtain ⟨h3, h4⟩ := callAcc_cell h2.symm
          refine ⟨_, x.cell y c h4, ?_⟩
          rcases lget i y h1 with ⟨v, w, hv1, hw1, hvw, hp, e⟩ | e
          · rw [e, bindC_at hnd hp hw1 (fun q => by have q' := Eq.trans (Eq.symm (h3 : r.scope.names.lookup y = some .cell)) q; cases q')]
            exact hvw
          · rw [e]; trivial
      refine wpAny_mono (aSs B ih d.body _ _ _ _ H _ (A.deeper (callEnvC (docDef r.name r.params r.body r.scope pm code doc) s.heap.objs.size (cx.fa k))) { s with heap := h₁, toks := tk } _ D.body F ⟨hA.hh, ?_, ?_⟩ R₁ L₁ hs) (fun f s' p => ?_) fun _ _ e => e
      · have := hA.depth
        show A.depth + 1 + n < recursionLimit
        exact o63 this
      · have := hA.units
        show A.units + 3 + 8 * n + 200 < cLine
        exact o64 this
      · obtain ⟨fl, l', H', h', tk', rfl, hf, R', L', e', q⟩ := p
        have ex : Ext NoX H s.heap H' h' := by
          refine ⟨fun b o g m _ => e'.keep b o (x.toInCall.keep b o g) m fun q => ?_, fun b g => (e'.new b g).imp id fun z => ?_, fun b g => e'.live b fun z => ?_⟩
          · rcases q with q | ⟨i, y, q⟩
            · have : b < s.heap.objs.size := Heap.lt_size g
              exact Nat.lt_irrefl _ (q ▸ this)
            · exact Nat.lt_asymm (above i y b q) (Heap.lt_size g)
          · cases z' : s.heap.get? b with
            | none => rfl
            | some o => rw [x.toInCall.keep b o z'] at z; cases z
          · cases z' : s.heap.get? b with
            | none => exact g z'
            | some o => rw [x.toInCall.keep b o z'] at z; cases z
        cases fl with
        | next => cases f <;> first | exact hf.elim | exact ⟨.none, H', h', tk', rfl, .none, R', ex, q⟩
        | ret v => cases f <;> first | exact hf.elim | exact ⟨v, H', h', tk', rfl, hf, R', ex, q⟩
theorem ph_all {defs : List FD} (B : BOk cx) (hlim : cx.B.NoLimit) (D : TabIs cx defs) : ∀ n, Ph cx n (callS defs n)
  | 0 => ⟨fun _ _ _ _ h => h.elim⟩
  | n + 1 => ⟨fun _ _ _ _ h _ _ _ _ hA R hv => wpAny_call (ph_code B hlim D (ph_all B hlim D n) h hA R hv)⟩
end Mine
end
section
open PySem PySem.Calls PySem.W PyProof.Rows
set_option maxRecDepth 100000
namespace Mine
noncomputable def f_normal : FD := ⟨"normal", 1, 2,
    (.cons (.asg 1 (.len (.var 0)))
    (.cons (.whl (.and (.cmp .gt (.var 1) (.int 0)) (.cmp .eq (.idx (.var 0) (.bin .sub (.var 1) (.int 1))) (.int 0))) (.cons (.aug 1 .sub (.int 1))
    .nil))
    (.cons (.ret (.slT (.var 0) (.var 1)))
    .nil)))⟩
noncomputable def f_nat_of : FD := ⟨"nat_of", 2, 4,
    (.cons (.ifs (.cmp .lt (.var 0) (.int 0)) (.cons .bad
    .nil) .nil)
    (.cons (.asgTT [2, 3] (.cons (.lst .nil) (.cons (.bin .sub (.bin .shl (.int 1) (.var 1)) (.int 1)) .nil)))
    (.cons (.whl (.cmp .gt (.var 0) (.int 0)) (.cons (.app (.var 2) (.bin .band (.var 0) (.var 3)))
    (.cons (.aug 0 .shr (.var 1))
    .nil)))
    (.cons (.ret (.var 2))
    .nil))))⟩
noncomputable def f_compare : FD := ⟨"compare", 2, 3,
    (.cons (.ifs (.cmp .ne (.len (.var 0)) (.len (.var 1))) (.cons (.ret (.ite (.cmp .lt (.len (.var 0)) (.len (.var 1))) (.neg (.int 1)) (.int 1)))
    .nil) .nil)
    (.cons (.forR 2 (.r3 (.bin .sub (.len (.var 0)) (.int 1)) (.neg (.int 1)) (.neg (.int 1))) (.cons (.ifs (.cmp .ne (.idx (.var 0) (.var 2)) (.idx (.var 1) (.var 2))) (.cons (.ret (.ite (.cmp .lt (.idx (.var 0) (.var 2)) (.idx (.var 1) (.var 2))) (.neg (.int 1)) (.int 1)))
    .nil) .nil)
    .nil))
    (.cons (.ret (.int 0))
    .nil)))⟩
noncomputable def f_add : FD := ⟨"add", 3, 7,
    (.cons (.ifs (.cmp .lt (.len (.var 0)) (.len (.var 1))) (.cons (.asgTT [0, 1] (.cons (.var 1) (.cons (.var 0) .nil)))
    .nil) .nil)
    (.cons (.asgTT [3, 4, 5] (.cons (.lst .nil) (.cons (.int 0) (.cons (.bin .sub (.bin .shl (.int 1) (.var 2)) (.int 1)) .nil))))
    (.cons (.forR 6 (.r1 (.len (.var 1))) (.cons (.aug 4 .add (.bin .add (.idx (.var 0) (.var 6)) (.idx (.var 1) (.var 6))))
    (.cons (.app (.var 3) (.bin .band (.var 4) (.var 5)))
    (.cons (.aug 4 .shr (.var 2))
    .nil))))
    (.cons (.forR 6 (.r2 (.len (.var 1)) (.len (.var 0))) (.cons (.aug 4 .add (.idx (.var 0) (.var 6)))
    (.cons (.app (.var 3) (.bin .band (.var 4) (.var 5)))
    (.cons (.aug 4 .shr (.var 2))
    .nil))))
    (.cons (.ifs (.cmp .gt (.var 4) (.int 0)) (.cons (.app (.var 3) (.var 4))
    .nil) .nil)
    (.cons (.ret (.var 3))
    .nil))))))⟩
noncomputable def f_mul_limb : FD := ⟨"mul_limb", 3, 7,
    (.cons (.ifs (.cmp .eq (.var 1) (.int 0)) (.cons (.ret (.lst .nil))
    .nil) .nil)
    (.cons (.asgTT [3, 4, 5] (.cons (.lst .nil) (.cons (.int 0) (.cons (.bin .sub (.bin .shl (.int 1) (.var 2)) (.int 1)) .nil))))
    (.cons (.forL 6 (.var 0) (.cons (.aug 4 .add (.bin .mul (.var 6) (.var 1)))
    (.cons (.app (.var 3) (.bin .band (.var 4) (.var 5)))
    (.cons (.aug 4 .shr (.var 2))
    .nil))))
    (.cons (.ifs (.cmp .gt (.var 4) (.int 0)) (.cons (.app (.var 3) (.var 4))
    .nil) .nil)
    (.cons (.ret (.var 3))
    .nil)))))⟩
noncomputable def f_divrem_limb : FD := ⟨"divrem_limb", 3, 6,
    (.cons (.ifs (.cmp .eq (.var 1) (.int 0)) (.cons .bad
    .nil) .nil)
    (.cons (.asgTT [3, 4] (.cons (.bin .mul (.lst (.cons (.int 0) .nil)) (.len (.var 0))) (.cons (.int 0) .nil)))
    (.cons (.forR 5 (.r3 (.bin .sub (.len (.var 0)) (.int 1)) (.neg (.int 1)) (.neg (.int 1))) (.cons (.asg 4 (.bin .bor (.bin .shl (.var 4) (.var 2)) (.idx (.var 0) (.var 5))))
    (.cons (.setIdx (.var 3) (.var 5) (.bin .fdiv (.var 4) (.var 1)))
    (.cons (.aug 4 .mod (.var 1))
    .nil))))
    (.cons (.ret (.tup (.cons (.call (.fn 0) (.cons (.var 3) .nil)) (.cons (.var 4) .nil))))
    .nil))))⟩
noncomputable def f_shift_left : FD := ⟨"shift_left", 3, 9,
    (.cons (.ifs (.cmp .eq (.len (.var 0)) (.int 0)) (.cons (.ret (.lst .nil))
    .nil) .nil)
    (.cons (.asgTT [3, 4] (.cons (.bin .fdiv (.var 1) (.var 2)) (.cons (.bin .mod (.var 1) (.var 2)) .nil)))
    (.cons (.asgTT [5, 6, 7] (.cons (.bin .mul (.lst (.cons (.int 0) .nil)) (.var 3)) (.cons (.int 0) (.cons (.bin .sub (.bin .shl (.int 1) (.var 2)) (.int 1)) .nil))))
    (.cons (.forL 8 (.var 0) (.cons (.aug 6 .bor (.bin .shl (.var 8) (.var 4)))
    (.cons (.app (.var 5) (.bin .band (.var 6) (.var 7)))
    (.cons (.aug 6 .shr (.var 2))
    .nil))))
    (.cons (.ifs (.cmp .gt (.var 6) (.int 0)) (.cons (.app (.var 5) (.var 6))
    .nil) .nil)
    (.cons (.ret (.var 5))
    .nil))))))⟩
noncomputable def f_shift_right : FD := ⟨"shift_right", 3, 9,
    (.cons (.asgTT [3, 4] (.cons (.bin .fdiv (.var 1) (.var 2)) (.cons (.bin .mod (.var 1) (.var 2)) .nil)))
    (.cons (.asgTT [5, 6] (.cons (.lst .nil) (.cons (.bin .sub (.bin .shl (.int 1) (.var 2)) (.int 1)) .nil)))
    (.cons (.forR 7 (.r2 (.var 3) (.len (.var 0))) (.cons (.asg 8 (.ite (.cmp .lt (.bin .add (.var 7) (.int 1)) (.len (.var 0))) (.idx (.var 0) (.bin .add (.var 7) (.int 1))) (.int 0)))
    (.cons (.app (.var 5) (.bin .band (.bin .bor (.bin .shr (.idx (.var 0) (.var 7)) (.var 4)) (.bin .shl (.var 8) (.bin .sub (.var 2) (.var 4)))) (.var 6)))
    .nil)))
    (.cons (.ret (.call (.fn 0) (.cons (.var 5) .nil)))
    .nil))))⟩
noncomputable def f_bits : FD := ⟨"bits", 2, 2,
    (.cons (.ret (.ite (.cmp .gt (.len (.var 0)) (.int 0)) (.bin .add (.bin .mul (.bin .sub (.len (.var 0)) (.int 1)) (.var 1)) (.bitlen (.idx (.var 0) (.neg (.int 1))))) (.int 0)))
    .nil)⟩
noncomputable def f_plain_of : FD := ⟨"plain_of", 2, 4,
    (.cons (.asg 2 (.int 0))
    (.cons (.forL 3 (.rev (.var 0)) (.cons (.asg 2 (.bin .add (.bin .shl (.var 2) (.var 1)) (.var 3)))
    .nil))
    (.cons (.ret (.var 2))
    .nil)))⟩
noncomputable def f_check_base : FD := ⟨"check_base", 1, 1,
    (.cons (.ifs (.cmp .lt (.var 0) (.int 2)) (.cons .bad
    .nil) .nil)
    .nil)⟩
noncomputable def f_digit_off : FD := ⟨"digit_off", 4, 6,
    (.cons (.ifs (.cmp .lt (.var 1) (.bin .shl (.int 1) (.var 2))) (.cons (.ret (.call (.fn 5) (.cons (.var 0) (.cons (.var 1) (.cons (.var 2) .nil)))))
    .nil) .nil)
    (.cons (.asgT [4, 5] (.call (.var 3) (.cons (.var 0) (.cons (.call (.fn 1) (.cons (.var 1) (.cons (.var 2) .nil))) (.cons (.var 2) .nil)))))
    (.cons (.ret (.tup (.cons (.var 4) (.cons (.call (.fn 9) (.cons (.var 5) (.cons (.var 2) .nil))) .nil))))
    .nil)))⟩
noncomputable def f_digits_plain : FD := ⟨"digits_plain", 4, 6,
    (.cons (.asg 4 (.lst .nil))
    (.cons (.whl (.cmp .gt (.len (.var 0)) (.int 0)) (.cons (.asgT [0, 5] (.call (.fn 11) (.cons (.var 0) (.cons (.var 1) (.cons (.var 2) (.cons (.var 3) .nil))))))
    (.cons (.app (.var 4) (.var 5))
    .nil)))
    (.cons (.rever (.var 4))
    (.cons (.ret (.var 4))
    .nil))))⟩
noncomputable def f_base_powers : FD := ⟨"base_powers", 4, 6,
    (.cons (.asgTT [4, 5] (.cons (.lst .nil) (.cons (.call (.fn 1) (.cons (.var 1) (.cons (.var 2) .nil))) .nil)))
    (.cons (.whl (.cmp .le (.call (.fn 2) (.cons (.var 5) (.cons (.var 0) .nil))) (.int 0)) (.cons (.app (.var 4) (.var 5))
    (.cons (.asg 5 (.call (.var 3) (.cons (.var 5) (.cons (.var 5) (.cons (.var 2) .nil)))))
    .nil)))
    (.cons (.ret (.var 4))
    .nil)))⟩
noncomputable def f_with_noughts : FD := ⟨"with_noughts", 2, 2,
    (.cons (.ret (.bin .add (.bin .mul (.lst (.cons (.int 0) .nil)) (.bin .sub (.var 1) (.len (.var 0)))) (.var 0)))
    .nil)⟩
noncomputable def f_digits_by_powers : FD := ⟨"digits_by_powers", 6, 12,
    (.cons (.ifs (.or (.cmp .le (.len (.var 0)) (.var 4)) (.cmp .eq (.len (.var 1)) (.int 0))) (.cons (.ret (.call (.fn 12) (.cons (.var 0) (.cons (.var 2) (.cons (.var 3) (.cons (.var 5) .nil))))))
    .nil) .nil)
    (.cons (.asgTT [6, 7, 8] (.cons (.idx (.var 1) (.neg (.int 1))) (.cons (.slT (.var 1) (.neg (.int 1))) (.cons (.bin .shl (.int 1) (.bin .sub (.len (.var 1)) (.int 1))) .nil))))
    (.cons (.ifs (.cmp .lt (.call (.fn 2) (.cons (.var 0) (.cons (.var 6) .nil))) (.int 0)) (.cons (.ret (.call (.fn 15) (.cons (.var 0) (.cons (.var 7) (.cons (.var 2) (.cons (.var 3) (.cons (.var 4) (.cons (.var 5) .nil))))))))
    .nil) .nil)
    (.cons (.asgT [9, 10] (.call (.var 5) (.cons (.var 0) (.cons (.var 6) (.cons (.var 3) .nil)))))
    (.cons (.asg 11 (.call (.fn 15) (.cons (.var 9) (.cons (.var 7) (.cons (.var 2) (.cons (.var 3) (.cons (.var 4) (.cons (.var 5) .nil))))))))
    (.cons (.ret (.bin .add (.var 11) (.call (.fn 14) (.cons (.call (.fn 15) (.cons (.var 10) (.cons (.var 7) (.cons (.var 2) (.cons (.var 3) (.cons (.var 4) (.cons (.var 5) .nil))))))) (.cons (.var 8) .nil)))))
    .nil))))))⟩
noncomputable def f_to_digits : FD := ⟨"to_digits", 6, 7,
    (.cons (.exp (.call (.fn 10) (.cons (.var 1) .nil)))
    (.cons (.asg 6 (.ite (.cmp .gt (.len (.var 0)) (.var 3)) (.call (.fn 13) (.cons (.var 0) (.cons (.var 1) (.cons (.var 2) (.cons (.var 5) .nil))))) (.lst .nil)))
    (.cons (.ret (.call (.fn 15) (.cons (.var 0) (.cons (.var 6) (.cons (.var 1) (.cons (.var 2) (.cons (.var 3) (.cons (.var 4) .nil))))))))
    .nil)))⟩
noncomputable def f_times_base : FD := ⟨"times_base", 4, 4,
    (.cons (.ret (.ite (.cmp .lt (.var 1) (.bin .shl (.int 1) (.var 2))) (.call (.fn 4) (.cons (.var 0) (.cons (.var 1) (.cons (.var 2) .nil)))) (.call (.var 3) (.cons (.var 0) (.cons (.call (.fn 1) (.cons (.var 1) (.cons (.var 2) .nil))) (.cons (.var 2) .nil))))))
    .nil)⟩
noncomputable def f_number_plain : FD := ⟨"number_plain", 4, 6,
    (.cons (.asg 4 (.lst .nil))
    (.cons (.forL 5 (.var 0) (.cons (.asg 4 (.call (.fn 3) (.cons (.call (.fn 17) (.cons (.var 4) (.cons (.var 1) (.cons (.var 2) (.cons (.var 3) .nil))))) (.cons (.call (.fn 1) (.cons (.var 5) (.cons (.var 2) .nil))) (.cons (.var 2) .nil)))))
    .nil))
    (.cons (.ret (.var 4))
    .nil)))⟩
noncomputable def f_number_by_powers : FD := ⟨"number_by_powers", 6, 10,
    (.cons (.asg 6 (.bin .sub (.len (.var 1)) (.int 1)))
    (.cons (.whl (.and (.cmp .ge (.var 6) (.int 0)) (.cmp .ge (.bin .shl (.int 1) (.var 6)) (.len (.var 0)))) (.cons (.asg 6 (.bin .sub (.var 6) (.int 1)))
    .nil))
    (.cons (.ifs (.or (.cmp .le (.len (.var 0)) (.var 4)) (.cmp .lt (.var 6) (.int 0))) (.cons (.ret (.call (.fn 18) (.cons (.var 0) (.cons (.var 2) (.cons (.var 3) (.cons (.var 5) .nil))))))
    .nil) .nil)
    (.cons (.asg 7 (.bin .sub (.len (.var 0)) (.bin .shl (.int 1) (.var 6))))
    (.cons (.asg 8 (.call (.fn 19) (.cons (.slT (.var 0) (.var 7)) (.cons (.var 1) (.cons (.var 2) (.cons (.var 3) (.cons (.var 4) (.cons (.var 5) .nil))))))))
    (.cons (.asg 9 (.call (.fn 19) (.cons (.slF (.var 0) (.var 7)) (.cons (.var 1) (.cons (.var 2) (.cons (.var 3) (.cons (.var 4) (.cons (.var 5) .nil))))))))
    (.cons (.ret (.call (.fn 3) (.cons (.call (.var 5) (.cons (.var 8) (.cons (.idx (.var 1) (.var 6)) (.cons (.var 3) .nil)))) (.cons (.var 9) (.cons (.var 3) .nil)))))
    .nil)))))))⟩
noncomputable def f_from_digits : FD := ⟨"from_digits", 5, 7,
    (.cons (.exp (.call (.fn 10) (.cons (.var 1) .nil)))
    (.cons (.forL 5 (.var 0) (.cons (.ifs (.not (.cmp2 .le .lt (.int 0) (.var 5) (.var 1))) (.cons .bad
    .nil) .nil)
    .nil))
    (.cons (.asg 6 (.lst .nil))
    (.cons (.ifs (.cmp .gt (.len (.var 0)) (.max (.var 3) (.int 1))) (.cons (.app (.var 6) (.call (.fn 1) (.cons (.var 1) (.cons (.var 2) .nil))))
    (.cons (.whl (.cmp .lt (.bin .shl (.int 2) (.bin .sub (.len (.var 6)) (.int 1))) (.len (.var 0))) (.cons (.app (.var 6) (.call (.var 4) (.cons (.idx (.var 6) (.neg (.int 1))) (.cons (.idx (.var 6) (.neg (.int 1))) (.cons (.var 2) .nil)))))
    .nil))
    .nil)) .nil)
    (.cons (.ret (.call (.fn 19) (.cons (.var 0) (.cons (.var 6) (.cons (.var 1) (.cons (.var 2) (.cons (.var 3) (.cons (.var 4) .nil))))))))
    .nil)))))⟩
noncomputable def f_mul_school : FD := ⟨"mul_school", 3, 10,
    (.cons (.asgTT [3, 4] (.cons (.bin .mul (.lst (.cons (.int 0) .nil)) (.bin .add (.len (.var 0)) (.len (.var 1)))) (.cons (.bin .sub (.bin .shl (.int 1) (.var 2)) (.int 1)) .nil)))
    (.cons (.forE 5 6 (.var 0) (.cons (.asg 7 (.int 0))
    (.cons (.forE 8 9 (.var 1) (.cons (.aug 7 .add (.bin .add (.idx (.var 3) (.bin .add (.var 5) (.var 8))) (.bin .mul (.var 6) (.var 9))))
    (.cons (.setIdx (.var 3) (.bin .add (.var 5) (.var 8)) (.bin .band (.var 7) (.var 4)))
    (.cons (.aug 7 .shr (.var 2))
    .nil))))
    (.cons (.setIdx (.var 3) (.bin .add (.var 5) (.len (.var 1))) (.var 7))
    .nil))))
    (.cons (.ret (.call (.fn 0) (.cons (.var 3) .nil)))
    .nil)))⟩
noncomputable def f_divrem_small : FD := ⟨"divrem_small", 3, 5,
    (.cons (.asgT [3, 4] (.call (.fn 5) (.cons (.var 0) (.cons (.idx (.var 1) (.int 0)) (.cons (.var 2) .nil)))))
    (.cons (.ret (.tup (.cons (.var 3) (.cons (.ite (.cmp .gt (.var 4) (.int 0)) (.lst (.cons (.var 4) .nil)) (.lst .nil)) .nil))))
    .nil))⟩
noncomputable def f_guessed_limb : FD := ⟨"guessed_limb", 4, 8,
    (.cons (.asgTT [4, 5] (.cons (.bin .bor (.bin .shl (.idx (.var 0) (.int 2)) (.var 3)) (.idx (.var 0) (.int 1))) (.cons (.bin .shl (.int 1) (.var 3)) .nil)))
    (.cons (.asg 6 (.min (.bin .fdiv (.var 4) (.var 1)) (.bin .sub (.var 5) (.int 1))))
    (.cons (.asg 7 (.bin .sub (.var 4) (.bin .mul (.var 6) (.var 1))))
    (.cons (.whl (.and (.cmp .lt (.var 7) (.var 5)) (.cmp .gt (.bin .mul (.var 6) (.var 2)) (.bin .bor (.bin .shl (.var 7) (.var 3)) (.idx (.var 0) (.int 0))))) (.cons (.aug 6 .sub (.int 1))
    (.cons (.aug 7 .add (.var 1))
    .nil)))
    (.cons (.ret (.var 6))
    .nil)))))⟩
noncomputable def f_take_away : FD := ⟨"take_away", 5, 10,
    (.cons (.asgTT [5, 6] (.cons (.int 0) (.cons (.bin .shl (.int 1) (.var 4)) .nil)))
    (.cons (.forE 7 8 (.var 1) (.cons (.asg 9 (.bin .sub (.idx (.var 0) (.bin .add (.var 3) (.var 7))) (.bin .mod (.bin .add (.bin .mul (.var 2) (.var 8)) (.var 5)) (.var 6))))
    (.cons (.asg 5 (.bin .add (.bin .fdiv (.bin .add (.bin .mul (.var 2) (.var 8)) (.var 5)) (.var 6)) (.ite (.cmp .lt (.var 9) (.int 0)) (.int 1) (.int 0))))
    (.cons (.setIdx (.var 0) (.bin .add (.var 3) (.var 7)) (.ite (.cmp .lt (.var 9) (.int 0)) (.bin .add (.var 9) (.var 6)) (.var 9)))
    .nil))))
    (.cons (.asg 9 (.bin .sub (.idx (.var 0) (.bin .add (.var 3) (.len (.var 1)))) (.var 5)))
    (.cons (.setIdx (.var 0) (.bin .add (.var 3) (.len (.var 1))) (.ite (.cmp .lt (.var 9) (.int 0)) (.bin .add (.var 9) (.var 6)) (.var 9)))
    (.cons (.ret (.ite (.cmp .lt (.var 9) (.int 0)) (.int 1) (.int 0)))
    .nil)))))⟩
noncomputable def f_put_back : FD := ⟨"put_back", 4, 8,
    (.cons (.asgTT [4, 5] (.cons (.int 0) (.cons (.bin .sub (.bin .shl (.int 1) (.var 3)) (.int 1)) .nil)))
    (.cons (.forE 6 7 (.var 1) (.cons (.aug 4 .add (.bin .add (.idx (.var 0) (.bin .add (.var 2) (.var 6))) (.var 7)))
    (.cons (.setIdx (.var 0) (.bin .add (.var 2) (.var 6)) (.bin .band (.var 4) (.var 5)))
    (.cons (.aug 4 .shr (.var 3))
    .nil))))
    (.cons (.setIdx (.var 0) (.bin .add (.var 2) (.len (.var 1))) (.bin .band (.bin .add (.idx (.var 0) (.bin .add (.var 2) (.len (.var 1)))) (.var 4)) (.var 5)))
    .nil)))⟩
noncomputable def f_divide_rows : FD := ⟨"divide_rows", 3, 7,
    (.cons (.asg 3 (.len (.var 1)))
    (.cons (.asg 4 (.bin .mul (.lst (.cons (.int 0) .nil)) (.bin .sub (.len (.var 0)) (.var 3))))
    (.cons (.forR 5 (.r3 (.bin .sub (.bin .sub (.len (.var 0)) (.var 3)) (.int 1)) (.neg (.int 1)) (.neg (.int 1))) (.cons (.asg 6 (.call (.fn 23) (.cons (.slB (.var 0) (.bin .sub (.bin .add (.var 5) (.var 3)) (.int 2)) (.bin .add (.bin .add (.var 5) (.var 3)) (.int 1))) (.cons (.idx (.var 1) (.bin .sub (.var 3) (.int 1))) (.cons (.idx (.var 1) (.bin .sub (.var 3) (.int 2))) (.cons (.var 2) .nil))))))
    (.cons (.ifs (.cmp .eq (.call (.fn 24) (.cons (.var 0) (.cons (.var 1) (.cons (.var 6) (.cons (.var 5) (.cons (.var 2) .nil)))))) (.int 1)) (.cons (.aug 6 .sub (.int 1))
    (.cons (.exp (.call (.fn 25) (.cons (.var 0) (.cons (.var 1) (.cons (.var 5) (.cons (.var 2) .nil))))))
    .nil)) .nil)
    (.cons (.setIdx (.var 4) (.var 5) (.var 6))
    .nil))))
    (.cons (.ret (.var 4))
    .nil))))⟩
noncomputable def f_divrem_school : FD := ⟨"divrem_school", 3, 7,
    (.cons (.ifs (.cmp .eq (.len (.var 1)) (.int 0)) (.cons .bad
    .nil) .nil)
    (.cons (.ifs (.cmp .lt (.call (.fn 2) (.cons (.var 0) (.cons (.var 1) .nil))) (.int 0)) (.cons (.ret (.tup (.cons (.lst .nil) (.cons (.slA (.var 0)) .nil))))
    .nil) .nil)
    (.cons (.ifs (.cmp .eq (.len (.var 1)) (.int 1)) (.cons (.ret (.call (.fn 22) (.cons (.var 0) (.cons (.var 1) (.cons (.var 2) .nil)))))
    .nil) .nil)
    (.cons (.asg 3 (.bin .sub (.var 2) (.call (.fn 8) (.cons (.lst (.cons (.idx (.var 1) (.neg (.int 1))) .nil)) (.cons (.var 2) .nil)))))
    (.cons (.asg 4 (.call (.fn 6) (.cons (.var 1) (.cons (.var 3) (.cons (.var 2) .nil)))))
    (.cons (.asg 5 (.call (.fn 6) (.cons (.var 0) (.cons (.var 3) (.cons (.var 2) .nil)))))
    (.cons (.asg 5 (.bin .add (.var 5) (.bin .mul (.lst (.cons (.int 0) .nil)) (.bin .sub (.bin .add (.len (.var 0)) (.int 1)) (.len (.var 5))))))
    (.cons (.asg 6 (.call (.fn 26) (.cons (.var 5) (.cons (.var 4) (.cons (.var 2) .nil)))))
    (.cons (.ret (.tup (.cons (.call (.fn 0) (.cons (.var 6) .nil)) (.cons (.call (.fn 7) (.cons (.call (.fn 0) (.cons (.var 5) .nil)) (.cons (.var 3) (.cons (.var 2) .nil)))) .nil))))
    .nil)))))))))⟩
noncomputable def f_law_peg : FD := ⟨"_law_peg", 2, 2,
    (.cons (.setIdx (.var 0) (.int 0) (.bin .add (.idx (.var 0) (.int 0)) (.int 1)))
    (.cons (.ifs (.cmp .le (.idx (.var 0) (.int 0)) (.len (.idx (.var 0) (.int 1)))) (.cons (.ret (.bin .mod (.idx (.idx (.var 0) (.int 1)) (.bin .sub (.idx (.var 0) (.int 0)) (.int 1))) (.var 1)))
    .nil) .nil)
    (.cons (.ret (.bin .mod (.bin .add (.bin .add (.bin .mul (.int 7) (.idx (.var 0) (.int 0))) (.bin .fdiv (.idx (.var 0) (.int 0)) (.int 4))) (.int 5)) (.var 1)))
    .nil)))⟩
noncomputable def f_law_limbs : FD := ⟨"_law_limbs", 2, 3,
    (.cons (.asg 2 (.lst .nil))
    (.cons (.whl (.cmp .gt (.var 0) (.int 0)) (.cons (.app (.var 2) (.bin .mod (.var 0) (.bin .pow (.int 2) (.var 1))))
    (.cons (.asg 0 (.bin .fdiv (.var 0) (.bin .pow (.int 2) (.var 1))))
    .nil)))
    (.cons (.ret (.var 2))
    .nil)))⟩
noncomputable def f_law_placed : FD := ⟨"_law_placed", 2, 2,
    (.cons (.ret (.sum (.cmpE (.rev (.var 0)) (.bin .mul (.var 3) (.bin .pow (.var 1) (.var 2))))))
    .nil)⟩
noncomputable def f_law_bare : FD := ⟨"_law_bare", 1, 2,
    (.cons (.asg 1 (.int 0))
    (.cons (.whl (.and (.cmp .lt (.var 1) (.len (.var 0))) (.cmp .eq (.idx (.var 0) (.var 1)) (.int 0))) (.cons (.asg 1 (.bin .add (.var 1) (.int 1)))
    .nil))
    (.cons (.ret (.slF (.var 0) (.var 1)))
    .nil)))⟩
noncomputable def f_law_taken : FD := ⟨"_law_taken", 3, 4,
    (.cons (.asg 3 (.bin .add (.bin .mul (.lst (.cons (.int 0) .nil)) (.bin .add (.bin .sub (.int 0) (.bin .mod (.len (.var 0)) (.var 2))) (.var 2))) (.var 0)))
    (.cons (.ret (.call (.fn 31) (.cons (.cmpR (.r3 (.int 0) (.len (.var 3)) (.var 2)) (.call (.fn 30) (.cons (.slB (.var 3) (.var 4) (.bin .add (.var 4) (.var 2))) (.cons (.var 1) .nil)))) .nil)))
    .nil))⟩
noncomputable def f_law : FD := ⟨"law", 1, 15,
    (.cons (.asg 1 (.lst (.cons (.int 0) (.cons (.cmpL (.slT (.var 0) (.int 15)) (.abs (.toi (.var 15)))) .nil))))
    (.cons (.asgTT [2, 3] (.cons (.bin .add (.int 4) (.call (.fn 28) (.cons (.var 1) (.cons (.int 3) .nil)))) (.cons (.bin .add (.int 3) (.call (.fn 28) (.cons (.var 1) (.cons (.int 10) .nil)))) .nil)))
    (.cons (.asgTT [4, 5, 6] (.cons (.bin .add (.int 1) (.call (.fn 28) (.cons (.var 1) (.cons (.int 3) .nil)))) (.cons (.idx (.lst (.cons (.int 2) (.cons (.int 3) (.cons (.int 5) .nil)))) (.call (.fn 28) (.cons (.var 1) (.cons (.int 3) .nil)))) (.cons (.bin .add (.int 3) (.call (.fn 28) (.cons (.var 1) (.cons (.int 40) .nil)))) .nil))))
    (.cons (.asg 7 (.cmpR (.r1 (.call (.fn 28) (.cons (.var 1) (.cons (.int 5) .nil)))) (.call (.fn 28) (.cons (.var 1) (.cons (.var 3) .nil)))))
    (.cons (.asg 8 (.cmpR (.r1 (.call (.fn 28) (.cons (.var 1) (.cons (.int 5) .nil)))) (.call (.fn 28) (.cons (.var 1) (.cons (.var 3) .nil)))))
    (.cons (.asg 9 (.bin .add (.var 7) (.var 8)))
    (.cons (.asg 10 (.lst (.cons (.var 7) (.cons (.var 8) (.cons (.var 9) (.cons (.bin .add (.lst (.cons (.int 1) .nil)) (.bin .mul (.lst (.cons (.int 0) .nil)) (.len (.var 8)))) (.cons (.bin .add (.lst (.cons (.int 0) (.cons (.int 0) .nil))) (.var 7)) .nil)))))))
    (.cons (.asg 11 (.cmpL (.var 10) (.call (.fn 20) (.cons (.var 15) (.cons (.var 3) (.cons (.var 2) (.cons (.var 4) (.cons (.fn 21) .nil))))))))
    (.cons (.ifs (.cmp .ne (.var 11) (.cmpL (.var 10) (.call (.fn 29) (.cons (.call (.fn 30) (.cons (.var 15) (.cons (.var 3) .nil))) (.cons (.var 2) .nil))))) (.cons (.ret (.boo false))
    .nil) .nil)
    (.cons (.asg 12 (.idx (.var 11) (.int 2)))
    (.cons (.ifs (.or (.cmp .ne (.call (.fn 3) (.cons (.call (.fn 21) (.cons (.idx (.var 11) (.int 0)) (.cons (.idx (.var 11) (.int 3)) (.cons (.var 2) .nil)))) (.cons (.idx (.var 11) (.int 1)) (.cons (.var 2) .nil)))) (.var 12)) (.cmp .ne (.idx (.var 11) (.int 4)) (.idx (.var 11) (.int 0)))) (.cons (.ret (.boo false))
    .nil) .nil)
    (.cons (.ifs (.or (.cmp .ne (.var 9) (.bin .add (.var 7) (.var 8))) (.cmp .ne (.call (.fn 16) (.cons (.var 12) (.cons (.var 3) (.cons (.var 2) (.cons (.var 4) (.cons (.fn 27) (.cons (.fn 21) .nil))))))) (.call (.fn 31) (.cons (.var 9) .nil)))) (.cons (.ret (.boo false))
    .nil) .nil)
    (.cons (.ifs (.cmp .ne (.call (.fn 16) (.cons (.var 12) (.cons (.bin .mul (.var 3) (.var 3)) (.cons (.var 2) (.cons (.var 4) (.cons (.fn 27) (.cons (.fn 21) .nil))))))) (.call (.fn 32) (.cons (.var 9) (.cons (.var 3) (.cons (.int 2) .nil))))) (.cons (.ret (.boo false))
    .nil) .nil)
    (.cons (.asg 13 (.call (.fn 16) (.cons (.var 12) (.cons (.int 2) (.cons (.var 2) (.cons (.var 4) (.cons (.fn 27) (.cons (.fn 21) .nil))))))))
    (.cons (.ifs (.cmp .ne (.call (.fn 16) (.cons (.var 12) (.cons (.bin .pow (.int 2) (.var 5)) (.cons (.var 2) (.cons (.var 4) (.cons (.fn 27) (.cons (.fn 21) .nil))))))) (.call (.fn 32) (.cons (.var 13) (.cons (.int 2) (.cons (.var 5) .nil))))) (.cons (.ret (.boo false))
    .nil) .nil)
    (.cons (.asg 14 (.call (.fn 16) (.cons (.var 12) (.cons (.var 6) (.cons (.var 2) (.cons (.var 4) (.cons (.fn 27) (.cons (.fn 21) .nil))))))))
    (.cons (.ifs (.or (.cmp .ne (.call (.fn 20) (.cons (.var 14) (.cons (.var 6) (.cons (.var 2) (.cons (.var 4) (.cons (.fn 21) .nil)))))) (.var 12)) (.cmp .isin (.int 0) (.slT (.var 14) (.int 1)))) (.cons (.ret (.boo false))
    .nil) .nil)
    (.cons (.ret (.cmp .eq (.var 12) (.call (.fn 29) (.cons (.call (.fn 30) (.cons (.var 9) (.cons (.var 3) .nil))) (.cons (.var 2) .nil)))))
    .nil))))))))))))))))))⟩
noncomputable def theDefs : List FD := [f_normal, f_nat_of, f_compare, f_add, f_mul_limb, f_divrem_limb, f_shift_left, f_shift_right, f_bits, f_plain_of, f_check_base, f_digit_off, f_digits_plain, f_base_powers, f_with_noughts, f_digits_by_powers, f_to_digits, f_times_base, f_number_plain, f_number_by_powers, f_from_digits, f_mul_school, f_divrem_small, f_guessed_limb, f_take_away, f_put_back, f_divide_rows, f_divrem_school, f_law_peg, f_law_limbs, f_law_placed, f_law_bare, f_law_taken, f_law]
noncomputable def theFns : List Str := (["normal", "nat_of", "compare", "add", "mul_limb", "divrem_limb", "shift_left", "shift_right", "bits", "plain_of", "check_base", "digit_off", "digits_plain", "base_powers", "with_noughts", "digits_by_powers", "to_digits", "times_base", "number_plain", "number_by_powers", "from_digits", "mul_school", "divrem_small", "guessed_limb", "take_away", "put_back", "divide_rows", "divrem_school", "_law_peg", "_law_limbs", "_law_placed", "_law_bare", "_law_taken", "law"] : List String).map Str.ofString
noncomputable def theNames : List (List Str) := ([["a", "end"],
  ["number", "w", "found", "mask"],
  ["a", "b", "at"],
  ["a", "b", "w", "found", "carry", "mask", "at"],
  ["a", "limb", "w", "found", "carry", "mask", "one"],
  ["a", "limb", "w", "found", "rest", "at"],
  ["a", "n", "w", "spots", "few", "found", "carry", "mask", "one"],
  ["a", "n", "w", "spots", "few", "found", "mask", "at", "above"],
  ["a", "w"],
  ["a", "w", "found", "limb"],
  ["base"],
  ["a", "base", "w", "divrem", "quotient", "rest"],
  ["a", "base", "w", "divrem", "found", "digit"],
  ["a", "base", "w", "mul", "found", "power"],
  ["digits", "many"],
  ["a", "powers", "base", "w", "least", "divrem", "power", "lesser", "many", "high", "low", "ahead"],
  ["a", "base", "w", "least", "divrem", "mul", "powers"],
  ["a", "base", "w", "mul"],
  ["digits", "base", "w", "mul", "found", "digit"],
  ["digits", "powers", "base", "w", "least", "mul", "at", "many", "high", "low"],
  ["digits", "base", "w", "least", "mul", "digit", "powers"],
  ["a", "b", "w", "found", "mask", "at", "limb", "carry", "spot", "other"],
  ["a", "b", "w", "quotient", "rest"],
  ["top", "first", "second", "w", "high", "base", "limb", "rest"],
  ["rest", "b", "limb", "at", "w", "carry", "base", "spot", "other", "here"],
  ["rest", "b", "at", "w", "carry", "mask", "spot", "other"],
  ["rest", "b", "w", "size", "quotient", "at", "limb"],
  ["a", "b", "w", "shift", "divisor", "rest", "quotient"],
  ["board", "many"],
  ["number", "w", "found"],
  ["digits", "base"],
  ["digits", "at"],
  ["digits", "base", "many", "full"],
  ["script", "board", "w", "base", "least", "many", "third", "ahead", "behind", "digits", "some", "told", "number", "twos", "other"]] : List (List String)).map (·.map Str.ofString)
end Mine
end
section
open PySem PySem.Calls PySem.W PyProof.Rows
set_option maxRecDepth 100000
namespace Mine
noncomputable def defOkB (fns : List Str) (d : FD) (names : List Str) (r : DefRec) : Bool :=
  names.length == d.nvars && decide (d.nargs ≤ d.nvars) && decide names.Nodup && r.params.posonlyargs.isEmpty && (r.params.args.map (·.arg) == names.take d.nargs) && r.params.kwonlyargs.isEmpty && r.params.vararg.isNone && r.params.kwarg.isNone &&
  (names.all fun x => r.scope.names.lookup x == some .local || r.scope.names.lookup x == some .cell) && r.scope.kind == .function && !r.scope.isCoroutine && !r.scope.isGenerator && mSs ⟨names.map some, r.scope, fns⟩ d.body r.body
theorem DefOk.of {fns : List Str} {d : FD} {names : List Str} {r : DefRec} (h : defOkB fns d names r = true) : DefOk fns d names r := by
  unfold defOkB at h
  simp only [Bool.and_eq_true, beq_iff_eq, decide_eq_true_eq, List.isEmpty_iff, Option.isNone_iff_eq_none, List.all_eq_true, Bool.or_eq_true, Bool.not_eq_true'] at h
  obtain ⟨⟨⟨⟨⟨⟨⟨⟨⟨⟨⟨⟨h1, h2⟩, h3⟩, h4⟩, h5⟩, h6⟩, h7⟩, h8⟩, h9⟩, h10⟩, h11⟩, h12⟩, h13⟩ := h
  exact ⟨h1, h2, h3, h4, h5, h6, h7, h8, h9, h10, h11, h12, h13⟩
noncomputable def tabOk (p : Program) : Bool := (theDefs.zip theNames).all fun x => (recsOf p).any fun r => r.name == Str.ofString x.1.name && defOkB theFns x.1 x.2 r
theorem tab_ok : tabOk PySem.Challenge.pw_sa0340_01 = true := by decide +kernel
end Mine
end
section
open PySem PySem.Calls PySem.W PyProof.Rows
set_option maxRecDepth 100000
namespace Mine
noncomputable def bltNames : List String := ["len", "abs", "int", "sum", "min", "max", "range", "enumerate"]
noncomputable def freeOk (p : Program) (loose : List Str) : Bool := bltNames.all fun y => let x := Str.ofString y
  !startupNames.contains x && !loose.contains x && !((recsOf p).map (·.name)).contains x && !((litsOf p).map (·.1)).contains x && !((clssOf p loose).map (·.name)).contains x && x != "__name__"
theorem fns_are : ∀ k : Nat, theFns[k]? = (theDefs[k]?).map fun d => Str.ofString d.name := by
  have : theFns = theDefs.map fun d => Str.ofString d.name := by decide +kernel
  intro k
  rw [this, List.getElem?_map]
theorem zip_get {k : Nat} {d : FD} (h : theDefs[k]? = some d) : ∃ ns, (d, ns) ∈ theDefs.zip theNames := by
  have hl : theDefs.length = theNames.length := by decide +kernel
  obtain ⟨hk, rfl⟩ := List.getElem?_eq_some_iff.mp h
  have hk' : k < (theDefs.zip theNames).length := by rw [List.length_zip, ← hl, Nat.min_self]; exact hk
  refine ⟨theNames[k]'(hl ▸ hk), ?_⟩
  have := List.getElem_mem hk'
  rwa [List.getElem_zip] at this
noncomputable def aH (a : Nat) (ns : List Int) : AH := fun b => if b = a then some (.fro (ns.map V.int)) else none
noncomputable def LawTrue : Prop := ∀ (a : Nat) (ns : List Int), ns.length ≤ 63 → callS theDefs 600 33 [.ref a] (aH a ns) fun v _ => v = .bool true
theorem are_ints {fa : Nat → Addr} : ∀ {ws : List Value} {ns : List Int}, IntsAre ws ns → Are fa (ns.map V.int) ws
  | _, _, .nil => .nil
  | _, _, .cons _ t h => .cons (.int _ t) (are_ints h)
theorem law_end (hlaw : LawTrue) {prog p : Program} {w : World} {loose : List Str} {mean : ExcName → Option Value} {s : Shared} {mg mb : Str → Option Value} {fa : Addr} {a : Addr} {ws : List Value} {ns : List Int}
    (T : Top p loose mean mg mb s.heap) (hfree : freeOk p loose = true) (htab : tabOk p = true) (hmg : mg (Str.ofString "law") = some (.ref fa)) (hL : s.heap.IsList a ws.toArray) (hI : IntsAre ws ns) (hn : ns.length ≤ 63) :
    codeAny (model prog w) callerA (.call (.ref fa) ⟨[.ref a], []⟩) (fun r s' => r = .ok (.ret (.bool true)) ∧ ∃ h' tk, s' = { s with heap := h', toks := tk } ∧ ∀ b o, s.heap.get? b = some o → h'.get? b = some o) s := by
  have key : ∀ k : Nat, ∃ a : Addr, ∀ d, theDefs[if k < 34 then k else 0]? = some d → ∃ names r o pm code doc, DefOk theFns d names r ∧ r.name = Str.ofString d.name ∧ mg (Str.ofString d.name) = some (.ref a) ∧ s.heap.get? a = some o ∧
      o.data = .func (docDef r.name r.params r.body r.scope pm code doc) ∧ s.heap.CodeRec code r.name := fun k => by
    have hk : (if k < 34 then k else 0) < theDefs.length := by
      have : theDefs.length = 34 := by decide +kernel
      split <;> (first | exact o65 this (by assumption) | exact o66 this)
    obtain ⟨d, hd⟩ : ∃ d, theDefs[if k < 34 then k else 0]? = some d := ⟨_, List.getElem?_eq_getElem hk⟩
    obtain ⟨names, hm⟩ := zip_get hd
    have := List.all_eq_true.mp htab _ hm
    obtain ⟨r, hr, hr'⟩ := List.any_eq_true.mp this
    rw [Bool.and_eq_true, beq_iff_eq] at hr'
    obtain ⟨a, o, pm, code, doc, h1, h2, h3, h4⟩ := T.fn r hr
    refine ⟨a, fun d' hd' => ?_⟩
    rw [hd] at hd'; cases hd'
    exact ⟨names, r, o, pm, code, doc, DefOk.of hr'.2, hr'.1, hr'.1 ▸ h1, h2, h3, h4⟩
  obtain ⟨f, hf⟩ := Classical.axiomOfChoice key
  have hd0 : ∃ d, theDefs[0]? = some d := ⟨_, rfl⟩
  have hgood : ∀ k, ∃ d, theDefs[if k < 34 then k else 0]? = some d := fun k => by
    have : theDefs.length = 34 := by decide +kernel
    have hk : (if k < 34 then k else 0) < theDefs.length := by split <;> (first | exact o65 this (by assumption) | exact o66 this)
    exact ⟨_, List.getElem?_eq_getElem hk⟩
  have hlt : ∀ {k d}, theDefs[k]? = some d → k < 34 := fun {k d} h => by
    have : theDefs.length = 34 := by decide +kernel
    have := (List.getElem?_eq_some_iff.mp h).1
    exact o67 (by assumption) this
  let cx : Cx := { prog := prog, w := w, B := s.heap, mg := mg, mb := mb, fa := f, fns := theFns }
  have B : BOk cx := {
    g := T.g
    b := T.b
    obj := fun k => by
      obtain ⟨d, hd⟩ := hgood k
      obtain ⟨names, r, o, pm, code, doc, -, -, -, h2, h3, -⟩ := hf k d hd
      exact ⟨o, _, h2, h3⟩
    fn := fun k x hx => by
      have hx' : theFns[k]? = some x := hx
      rw [fns_are] at hx'
      cases hd : theDefs[k]? with
      | none => rw [hd] at hx'; cases hx'
      | some d =>
        rw [hd] at hx'; cases hx'
        obtain ⟨names, r, o, pm, code, doc, -, -, h1, -, -, -⟩ := hf k d (by rw [if_pos (hlt hd)]; exact hd)
        exact h1
    bl := fun y hy => by
      have := List.all_eq_true.mp hfree y hy
      simp only [Bool.and_eq_true, Bool.not_eq_true', bne_iff_ne] at this
      obtain ⟨⟨⟨⟨⟨h1, h2⟩, h3⟩, h4⟩, h5⟩, h6⟩ := this
      have nm : ∀ {l : List Str} {x : Str}, l.contains x = false → x ∉ l := fun h q => by rw [List.contains_iff_mem.mpr q] at h; cases h
      exact ⟨T.free _ (nm h1) (nm h2) (nm h3) (nm h4) (nm h5), T.builtins _ h6⟩ }
  have D : TabIs cx theDefs := fun k d hd => by
    obtain ⟨names, r, o, pm, code, doc, h0, -, -, h2, h3, h4⟩ := hf k d (by rw [if_pos (hlt hd)]; exact hd)
    exact ⟨names, r, o, pm, code, doc, h0, h2, h3, h4⟩
  have hfa : cx.fa 33 = fa := by
    obtain ⟨names, r, o, pm, code, doc, -, -, h1, -, -, -⟩ := hf 33 f_law rfl
    have h1' : mg (Str.ofString "law") = some (.ref (f 33)) := h1
    rw [hmg] at h1'
    cases h1'; rfl
  have R : HR cx (aH a ns) s.heap := {
    base := fun _ _ e => e
    obs := fun b ob e => by
      unfold aH at e
      split at e
      · rename_i q; subst q; cases e; exact ⟨ws, are_ints hI, hL⟩
      · cases e
    frs := fun b ob e hfr => by
      unfold aH at e
      split at e
      · cases e; cases hfr
      · cases e }
  have := ph_code (n := 599) B T.nolimit D (ph_all B T.nolimit D 599) (hlaw a ns hn) (A := callerA) (s := s) (Er := fun _ _ => False) (vals := [.ref a]) ⟨rfl, by decide, by decide⟩ R (.cons (.ref a) .nil)
  rw [hfa] at this
  refine codeAny_mono this fun r s' h => ?_
  match r, h with
  | .ok (.ret v), h =>
    obtain ⟨x, H', h', tk, rfl, hv, R', -, rfl⟩ := h
    cases hv
    exact ⟨rfl, h', tk, rfl, R'.base⟩
end Mine
end
section
open PySem PySem.Calls PySem.W PyProof.Rows
set_option maxRecDepth 100000
namespace Mine
noncomputable def val (B : Int) : List Int → Int
  | [] => 0
  | x :: r => x + B * val B r
noncomputable def Lim (B : Int) (xs : List Int) : Prop := ∀ x ∈ xs, 0 ≤ x ∧ x < B
variable {B : Int}
theorem val_append (xs ys : List Int) : val B (xs ++ ys) = val B xs + B ^ xs.length * val B ys := by
  induction xs with
  | nil => simp [val]
  | cons x r ih => simp only [List.cons_append, val, ih, List.length_cons, Int.pow_succ]; grind
theorem val_zeros {zs : List Int} (h : ∀ x ∈ zs, x = 0) : val B zs = 0 := by
  induction zs with
  | nil => rfl
  | cons x _ ih => rw [val, ih fun y hy => h y (.tail _ hy), h x (.head _)]; simp
theorem val_replicate (n : Nat) : val B (List.replicate n 0) = 0 := val_zeros fun x hx => (List.mem_replicate.mp hx).2
theorem val_nonneg (hB : 0 ≤ B) {xs : List Int} (h : Lim B xs) : 0 ≤ val B xs := by
  induction xs with
  | nil => exact Int.le_refl _
  | cons x r ih =>
    have h1 := (h x (.head _)).1
    have h2 := Int.mul_nonneg hB (ih fun y hy => h y (.tail _ hy))
    show 0 ≤ x + B * val B r
    exact o68 h1 h2
theorem val_lt (hB : 0 < B) {xs : List Int} (h : Lim B xs) : val B xs < B ^ xs.length := by
  induction xs with
  | nil => simp [val]
  | cons x r ih =>
    have h1 := (h x (.head _)).2
    have h2 := ih fun y hy => h y (.tail _ hy)
    have h3 : B * val B r ≤ B * (B ^ r.length - 1) := Int.mul_le_mul_of_nonneg_left (by exact o69 h2) (Int.le_of_lt hB)
    show x + B * val B r < B ^ (r.length + 1)
    rw [Int.pow_succ]
    have : B * (B ^ r.length - 1) = B ^ r.length * B - B := by grind
    exact o70 h1 h3 this
theorem val_td (xs : List Int) (i : Nat) : val B xs = val B (xs.take i) + B ^ i * val B (xs.drop i) := by
  by_cases h : i ≤ xs.length
  · conv => lhs; rw [← List.take_append_drop i xs, val_append, List.length_take, Nat.min_eq_left h]
  · rw [List.take_of_length_le (by exact o71 h), List.drop_eq_nil_of_le (by exact o71 h)]
    simp [val]
theorem val_set {xs : List Int} : ∀ {i : Nat} {z : Int} (y : Int), xs[i]? = some z → val B (xs.set i y) = val B xs + (y - z) * B ^ i := by
  induction xs with
  | nil => intro i z y h; simp at h
  | cons x r ih =>
    intro i z y h
    cases i with
    | zero => simp at h; subst h; simp [val]; exact o72
    | succ i =>
      simp at h
      simp only [List.set_cons_succ, val, ih y h, Int.pow_succ]
      grind
theorem Lim.set {xs : List Int} (h : Lim B xs) {y : Int} (hy : 0 ≤ y ∧ y < B) (i : Nat) : Lim B (xs.set i y) := fun x hx => by
  rcases List.mem_or_eq_of_mem_set hx with h1 | rfl
  · exact h x h1
  · exact hy
theorem Lim.append {xs ys : List Int} (h : Lim B xs) (h' : Lim B ys) : Lim B (xs ++ ys) := fun x hx => (List.mem_append.mp hx).elim (h x) (h' x)
theorem Lim.one {x : Int} (h : 0 ≤ x ∧ x < B) : Lim B [x] := fun y hy => by rw [List.mem_singleton.mp hy]; exact h
theorem Lim.nil : Lim B [] := fun _ h => by cases h
theorem Lim.zeros (hB : 0 < B) (n : Nat) : Lim B (List.replicate n 0) := fun x hx => by rw [(List.mem_replicate.mp hx).2]; exact o73 hB
theorem Lim.take {xs : List Int} (h : Lim B xs) (n : Nat) : Lim B (xs.take n) := fun x hx => h x (List.mem_of_mem_take hx)
theorem Lim.drop {xs : List Int} (h : Lim B xs) (n : Nat) : Lim B (xs.drop n) := fun x hx => h x (List.mem_of_mem_drop hx)
theorem Lim.at {xs : List Int} (h : Lim B xs) {i : Nat} {x : Int} (e : xs[i]? = some x) : 0 ≤ x ∧ x < B := h x (List.mem_of_getElem? e)
noncomputable def limbs (B n : Int) : List Int := if h : 0 < n ∧ 2 ≤ B then (n % B) :: limbs B (n / B) else []
termination_by n.toNat
decreasing_by
  have h1 : n / B < n := Int.ediv_lt_of_lt_mul (by exact o74 h.2) (by
    have := Int.mul_le_mul_of_nonneg_left h.2 (Int.le_of_lt h.1); exact o75 h.1 this)
  have h2 : 0 ≤ n / B := Int.ediv_nonneg (Int.le_of_lt h.1) (by exact o76 h.2)
  exact o77 h.1 h1
theorem limbs_zero : limbs B 0 = [] := by rw [limbs]; simp
theorem limbs_nonpos {n : Int} (h : n ≤ 0) : limbs B n = [] := by rw [limbs, dif_neg (by exact o78 h)]
theorem limbs_pos {n : Int} (h : 0 < n) (hB : 2 ≤ B) : limbs B n = (n % B) :: limbs B (n / B) := by rw [limbs, dif_pos ⟨h, hB⟩]
theorem ediv_lt_self {n : Int} (h : 0 < n) (hB : 2 ≤ B) : 0 ≤ n / B ∧ n / B < n := by
  refine ⟨Int.ediv_nonneg (Int.le_of_lt h) (by exact o76 hB), Int.ediv_lt_of_lt_mul (by exact o74 hB) ?_⟩
  have := Int.mul_le_mul_of_nonneg_left hB (Int.le_of_lt h); exact o75 h this
theorem limbs_rec (hB : 2 ≤ B) {P : Int → Prop} (h0 : P 0) (hs : ∀ n, 0 < n → P (n / B) → P n) : ∀ n, 0 ≤ n → P n := by
  have : ∀ k : Nat, ∀ n : Int, 0 ≤ n → n.toNat ≤ k → P n := by
    intro k
    induction k with
    | zero => intro n h1 h2; have : n = 0 := by exact o79 h1 h2
              subst this; exact h0
    | succ k ih =>
      intro n h1 h2
      by_cases hn : n = 0
      · subst hn; exact h0
      · have := ediv_lt_self (n := n) (by exact o80 h1 hn) hB
        exact hs n (by exact o81 this.1 this.2) (ih (n / B) this.1 (by exact o82 h2 this.2))
  exact fun n h => this n.toNat n h (Nat.le_refl _)
theorem limbs_val (hB : 2 ≤ B) : ∀ n, 0 ≤ n → val B (limbs B n) = n := by
  refine limbs_rec hB (by rw [limbs_zero]; rfl) fun n h ih => ?_
  rw [limbs_pos h hB, val, ih]
  have := Int.emod_add_mul_ediv n B; exact o83 this
theorem limbs_lim (hB : 2 ≤ B) : ∀ n, 0 ≤ n → Lim B (limbs B n) := by
  refine limbs_rec hB (by rw [limbs_zero]; exact .nil) fun n h ih => ?_
  rw [limbs_pos h hB]
  intro x hx
  rcases List.mem_cons.mp hx with rfl | hx
  · exact ⟨Int.emod_nonneg _ (by exact o84 hB), Int.emod_lt_of_pos _ (by exact o74 hB)⟩
  · exact ih x hx
theorem limbs_cons {x v : Int} (hB : 2 ≤ B) (hx : 0 ≤ x ∧ x < B) (hv : 0 ≤ v) (h : x ≠ 0 ∨ v ≠ 0) : limbs B (x + B * v) = x :: limbs B v := by
  have h0 : 0 ≤ B * v := Int.mul_nonneg (by exact o76 hB) hv
  have hp : 0 < x + B * v := by
    rcases h with h | h
    · exact o85 hx.1 h0 h
    · have : 0 < B * v := Int.mul_pos (by exact o74 hB) (by exact o86 hv h)
      exact o87 hx.1 this
  rw [limbs_pos hp hB, Int.add_mul_emod_self_left, Int.emod_eq_of_lt hx.1 hx.2, Int.add_mul_ediv_left _ _ (by exact o84 hB), Int.ediv_eq_zero_of_lt hx.1 hx.2, Int.zero_add]
theorem limbs_eq_nil (hB : 2 ≤ B) {n : Int} (h : 0 ≤ n) : limbs B n = [] ↔ n = 0 := by
  constructor
  · intro e
    have := limbs_val hB n h
    rw [e] at this; exact this.symm
  · rintro rfl; exact limbs_zero
theorem limbs_inj (hB : 2 ≤ B) {m n : Int} (h : 0 ≤ m) (h' : 0 ≤ n) (e : limbs B m = limbs B n) : m = n := by
  rw [← limbs_val hB m h, e, limbs_val hB n h']
noncomputable def norm : List Int → List Int
  | [] => []
  | x :: r => if norm r = [] ∧ x = 0 then [] else x :: norm r
theorem norm_limbs (hB : 2 ≤ B) {xs : List Int} (h : Lim B xs) : norm xs = limbs B (val B xs) := by
  induction xs with
  | nil => rw [val, limbs_zero]; rfl
  | cons x r ih =>
    have hr : Lim B r := fun y hy => h y (.tail _ hy)
    have hx := h x (.head _)
    have hv := val_nonneg (by exact o76 hB) hr
    rw [norm, ih hr, val]
    by_cases hc : val B r = 0 ∧ x = 0
    · rw [if_pos ⟨by rw [hc.1]; exact limbs_zero, hc.2⟩, hc.1, hc.2, limbs_nonpos (by exact o88)]
    · rw [if_neg fun q => hc ⟨(limbs_eq_nil hB hv).mp q.1, q.2⟩, limbs_cons hB hx hv (by exact o89 hc)]
theorem norm_app_zeros {ys zs : List Int} (h : ∀ x ∈ zs, x = 0) : norm (ys ++ zs) = norm ys := by
  induction ys with
  | nil =>
    induction zs with
    | nil => rfl
    | cons z r ih =>
      have e : norm r = [] := ih fun y hy => h y (.tail _ hy)
      show norm (z :: r) = []
      rw [norm, if_pos ⟨e, h z (.head _)⟩]
  | cons y r ih => rw [List.cons_append, norm, norm, ih]
theorem norm_last {xs : List Int} (h : xs.getLast? ≠ some 0) : norm xs = xs := by
  induction xs with
  | nil => rfl
  | cons x r ih =>
    rw [norm]
    cases r with
    | nil => simp at h; simp [norm, h]
    | cons y t =>
      have := ih (by simpa [List.getLast?_cons_cons] using h)
      rw [this]
      simp
theorem norm_take {xs : List Int} {e : Nat} (he : e ≤ xs.length) (hz : ∀ (i : Nat) x, e ≤ i → xs[i]? = some x → x = 0) (hl : e = 0 ∨ ∃ x, xs[e - 1]? = some x ∧ x ≠ 0) : norm xs = xs.take e := by
  conv => lhs; rw [← List.take_append_drop e xs]
  rw [norm_app_zeros, norm_last]
  · rcases hl with rfl | ⟨x, hx, hx0⟩
    · simp
    · by_cases h0 : e = 0
      · subst h0; simp
      · rw [List.getLast?_take, if_neg h0, hx]
        simpa using hx0
  · intro x hx
    obtain ⟨i, hi, rfl⟩ := List.mem_iff_getElem.mp hx
    rw [List.length_drop] at hi
    exact hz (e + i) _ (by exact o55) (by rw [List.getElem_drop]; exact List.getElem?_eq_getElem _)
theorem limbs_last (hB : 2 ≤ B) : ∀ n, 0 ≤ n → (limbs B n).getLast? ≠ some 0 := by
  refine limbs_rec hB (by rw [limbs_zero]; simp) fun n h ih => ?_
  rw [limbs_pos h hB]
  by_cases hq : n / B = 0
  · rw [hq, limbs_zero]
    have := Int.emod_add_mul_ediv n B
    rw [hq] at this
    simp
    exact o90 h this
  · cases hl : limbs B (n / B) with
    | nil => exact absurd ((limbs_eq_nil hB (ediv_lt_self h hB).1).mp hl) hq
    | cons y t => rw [hl] at ih; rw [List.getLast?_cons_cons]; exact ih
theorem limbs_of (hB : 2 ≤ B) {xs : List Int} (h : Lim B xs) (hl : xs.getLast? ≠ some 0) : xs = limbs B (val B xs) := by rw [← norm_limbs hB h, norm_last hl]
theorem limbs_len (hB : 2 ≤ B) : ∀ (k : Nat) (n : Int), 0 ≤ n → n < B ^ k → (limbs B n).length ≤ k := by
  intro k
  induction k with
  | zero => intro n h h'; have : n = 0 := by simp at h'; exact o91 h h'
            rw [this, limbs_zero]; simp
  | succ k ih =>
    intro n h h'
    by_cases h0 : n = 0
    · rw [h0, limbs_zero]; simp
    · rw [limbs_pos (by exact o80 h h0) hB, List.length_cons]
      have := ih (n / B) (ediv_lt_self (by exact o80 h h0) hB).1 (Int.ediv_lt_of_lt_mul (by exact o74 hB) (by rw [Int.pow_succ] at h'; exact h'))
      exact o92 this
theorem limbs_len_lt (hB : 2 ≤ B) {n : Int} (h : 0 < n) : B ^ ((limbs B n).length - 1) ≤ n := by
  have key : ∀ n, 0 ≤ n → 0 < n → B ^ ((limbs B n).length - 1) ≤ n := by
    refine limbs_rec hB (by exact o93) fun n h ih _ => ?_
    rw [limbs_pos h hB, List.length_cons, Nat.add_sub_cancel]
    by_cases hq : n / B = 0
    · rw [hq, limbs_zero]; simp; exact o94 h
    · have hp : 0 < n / B := by have := (ediv_lt_self h hB).1; exact o95 hq this
      have := ih hp
      have hne : limbs B (n / B) ≠ [] := fun e => hq ((limbs_eq_nil hB (by exact o96 hp)).mp e)
      have hl : (limbs B (n / B)).length = (limbs B (n / B)).length - 1 + 1 := by
        have := List.length_pos_iff.mpr hne; exact o97 this
      rw [hl, Int.pow_succ]
      have h2 := Int.mul_le_mul_of_nonneg_right this (show 0 ≤ B by exact o76 hB)
      have h3 := Int.ediv_mul_le n (show B ≠ 0 by exact o84 hB)
      exact o98 h2 h3
  exact key n (Int.le_of_lt h) h
structure WOk (w : Nat) (B : Int) : Prop where
  rng : 4 ≤ w ∧ w ≤ 6
  eq : B = 2 ^ w
theorem WOk.cases {w : Nat} (h : WOk w B) : B = 16 ∨ B = 32 ∨ B = 64 := by
  have h1 := h.rng
  have h2 := h.eq
  rcases (by exact o99 h1.1 h1.2 : w = 4 ∨ w = 5 ∨ w = 6) with rfl | rfl | rfl <;> simp_all
theorem WOk.two {w : Nat} (h : WOk w B) : 2 ≤ B := by have := h.cases; exact o100 this
theorem WOk.le {w : Nat} (h : WOk w B) : 16 ≤ B ∧ B ≤ 64 := by have := h.cases; exact o101 this
theorem band_mask {w : Nat} (hw : WOk w B) (x : Int) : Builtin.bitAnd x (B - 1) = x % B := by rw [hw.eq]; exact mask_all x w
theorem bor_add {x y : Int} {k : Nat} (hx : 0 ≤ x) (hy : 0 ≤ y ∧ y < 2 ^ k) : Builtin.bitOr (x * 2 ^ k) y = x * 2 ^ k + y := by
  obtain ⟨a, rfl⟩ := Int.eq_ofNat_of_zero_le hx
  obtain ⟨b, rfl⟩ := Int.eq_ofNat_of_zero_le hy.1
  have hb : b < 2 ^ k := by have := hy.2; exact_mod_cast this
  have e : ((a : Int) * 2 ^ k) = ((a * 2 ^ k : Nat) : Int) := by push_cast; rfl
  rw [e]
  have hor : ∀ p q : Nat, Builtin.bitOr (p : Int) (q : Int) = ((p ||| q : Nat) : Int) := fun p q => by
    unfold Builtin.bitOr Builtin.bitAnd Builtin.bitNot
    have h1 : decide ((0 : Int) ≤ -(p : Int) - 1) = false := by simp; exact o102
    have h2 : decide ((0 : Int) ≤ -(q : Int) - 1) = false := by simp; exact o102
    simp only [h1, h2]
    have h3 : (-(-(p : Int) - 1) - 1).toNat = p := by exact o103
    have h4 : (-(-(q : Int) - 1) - 1).toNat = q := by exact o103
    rw [h3, h4]
    exact o104
  rw [hor]
  have := Nat.shiftLeft_add_eq_or_of_lt hb a
  rw [Nat.shiftLeft_eq] at this
  rw [← this]
  push_cast; rfl
theorem bor_add' {x y : Int} {k : Nat} (hx : 0 ≤ x) (hy : 0 ≤ y ∧ y < 2 ^ k) : Builtin.bitOr y (x * 2 ^ k) = y + x * 2 ^ k := by
  have h : ∀ a b : Int, 0 ≤ a → 0 ≤ b → Builtin.bitOr a b = Builtin.bitOr b a := fun a b ha hb => by
    unfold Builtin.bitOr; rw [bitAnd_comm]
  rw [h _ _ hy.1 (Int.mul_nonneg hx (Int.le_of_lt (Int.pow_pos (by decide)))), bor_add hx hy, Int.add_comm]
end Mine
end
section
open PySem PySem.Calls PySem.W PyProof.Rows
set_option maxRecDepth 100000
namespace Mine
variable {Φ : Phi}
theorem x0 {i : Nat} {l : Loc} {H : AH} {Q : PQ} : evalS Φ (.var i) l H Q = (varS l i fun v => Q v H) := rfl
theorem x1 {k : Nat} {l : Loc} {H : AH} {Q : PQ} : evalS Φ (.fn k) l H Q = (Q (.fn k) H) := rfl
theorem x2 {i : Int} {l : Loc} {H : AH} {Q : PQ} : evalS Φ (.int i) l H Q = (Q (.int i) H) := rfl
theorem x3 {b : Bool} {l : Loc} {H : AH} {Q : PQ} : evalS Φ (.boo b) l H Q = (Q (.bool b) H) := rfl
theorem x4 {op : Op} {a : E} {b : E} {l : Loc} {H : AH} {Q : PQ} : evalS Φ (.bin op a b) l H Q = (evalS Φ a l H fun x H₁ => evalS Φ b l H₁ fun y H₂ => binS op x y H₂ Q) := rfl
theorem x5 {a : E} {l : Loc} {H : AH} {Q : PQ} : evalS Φ (.neg a) l H Q = (evalS Φ a l H fun x H₁ => asI x fun i => Q (.int (-i)) H₁) := rfl
theorem x6 {op : Cp} {a : E} {b : E} {l : Loc} {H : AH} {Q : PQ} : evalS Φ (.cmp op a b) l H Q = (evalS Φ a l H fun x H₁ => evalS Φ b l H₁ fun y H₂ => cmpS op x y H₂ fun r => Q (.bool r) H₂) := rfl
theorem x7 {c : C} {a : E} {b : E} {l : Loc} {H : AH} {Q : PQ} : evalS Φ (.ite c a b) l H Q = (condS Φ c l H fun r H₁ => (r = true → evalS Φ a l H₁ Q) ∧ (r = false → evalS Φ b l H₁ Q)) := rfl
theorem x8 {a : E} {i : E} {l : Loc} {H : AH} {Q : PQ} : evalS Φ (.idx a i) l H Q = (evalS Φ a l H fun x H₁ => evalS Φ i l H₁ fun y H₂ =>
      ∃ r k xs v, x = .ref r ∧ y = .int k ∧ H₂ r = some (.lst xs) ∧ xs.length ≤ lim ∧ ((0 ≤ k ∧ xs[k.toNat]? = some v) ∨ (k = -1 ∧ xs.getLast? = some v)) ∧ Q v H₂) := rfl
theorem x9 {a : E} {hi : E} {l : Loc} {H : AH} {Q : PQ} : evalS Φ (.slT a hi) l H Q = (evalS Φ a l H fun x H₁ => evalS Φ hi l H₁ fun y H₂ => asI y fun k => cutS x none (some k) H₂ Q) := rfl
theorem x10 {a : E} {lo : E} {l : Loc} {H : AH} {Q : PQ} : evalS Φ (.slF a lo) l H Q = (evalS Φ a l H fun x H₁ => evalS Φ lo l H₁ fun y H₂ => asI y fun k => cutS x (some k) none H₂ Q) := rfl
theorem x11 {a : E} {lo : E} {hi : E} {l : Loc} {H : AH} {Q : PQ} : evalS Φ (.slB a lo hi) l H Q = (evalS Φ a l H fun x H₁ => evalS Φ lo l H₁ fun y H₂ => evalS Φ hi l H₂ fun z H₃ => asI y fun k => asI z fun m => cutS x (some k) (some m) H₃ Q) := rfl
theorem x12 {a : E} {l : Loc} {H : AH} {Q : PQ} : evalS Φ (.slA a) l H Q = (evalS Φ a l H fun x H₁ => cutS x none none H₁ Q) := rfl
theorem x13 {a : E} {l : Loc} {H : AH} {Q : PQ} : evalS Φ (.rev a) l H Q = (evalS Φ a l H fun x H₁ => asR x fun r => asL (H₁ r) fun xs => xs.length ≤ lim ∧ ∀ c, H₁ c = none → Q (.ref c) (H₁.set c (.lst xs.reverse))) := rfl
theorem x14 {es : Es} {l : Loc} {H : AH} {Q : PQ} : evalS Φ (.lst es) l H Q = (evalsS Φ es l H fun vs H₁ => vs.length ≤ lim ∧ ∀ c, H₁ c = none → Q (.ref c) (H₁.set c (.lst vs))) := rfl
theorem x15 {es : Es} {l : Loc} {H : AH} {Q : PQ} : evalS Φ (.tup es) l H Q = (evalsS Φ es l H fun vs H₁ => vs.length ≤ lim ∧ ∀ c, H₁ c = none → Q (.ref c) (H₁.set c (.tup vs))) := rfl
theorem x16 {f : E} {es : Es} {l : Loc} {H : AH} {Q : PQ} : evalS Φ (.call f es) l H Q = (evalS Φ f l H fun x H₁ => asF x fun k => evalsS Φ es l H₁ fun vs H₂ => Φ k vs H₂ Q) := rfl
theorem x17 {a : E} {l : Loc} {H : AH} {Q : PQ} : evalS Φ (.len a) l H Q = (evalS Φ a l H fun x H₁ => asR x fun r => asL (H₁ r) fun xs => xs.length ≤ lim ∧ Q (.int xs.length) H₁) := rfl
theorem x18 {a : E} {l : Loc} {H : AH} {Q : PQ} : evalS Φ (.abs a) l H Q = (evalS Φ a l H fun x H₁ => asI x fun i => Q (.int (if i < 0 then -i else i)) H₁) := rfl
theorem x19 {a : E} {l : Loc} {H : AH} {Q : PQ} : evalS Φ (.toi a) l H Q = (evalS Φ a l H fun x H₁ => asI x fun i => Q (.int i) H₁) := rfl
theorem x20 {a : E} {l : Loc} {H : AH} {Q : PQ} : evalS Φ (.sum a) l H Q = (evalS Φ a l H fun x H₁ => ∃ r is, x = .ref r ∧ IL H₁ r is ∧ Q (.int is.sum) H₁) := rfl
theorem x21 {a : E} {b : E} {l : Loc} {H : AH} {Q : PQ} : evalS Φ (.min a b) l H Q = (evalS Φ a l H fun x H₁ => evalS Φ b l H₁ fun y H₂ => asI x fun i => asI y fun j => Q (.int (if j < i then j else i)) H₂) := rfl
theorem x22 {a : E} {b : E} {l : Loc} {H : AH} {Q : PQ} : evalS Φ (.max a b) l H Q = (evalS Φ a l H fun x H₁ => evalS Φ b l H₁ fun y H₂ => asI x fun i => asI y fun j => Q (.int (if j > i then j else i)) H₂) := rfl
theorem x23 {a : E} {l : Loc} {H : AH} {Q : PQ} : evalS Φ (.bitlen a) l H Q = (evalS Φ a l H fun x H₁ => asI x fun i => Q (.int (Builtin.Int.intBits i)) H₁) := rfl
theorem x24 {src : E} {elt : E} {l : Loc} {H : AH} {Q : PQ} : evalS Φ (.cmpL src elt) l H Q = (evalS Φ src l H fun x H₁ => ∃ r xs, x = .ref r ∧ H₁ r = some (.lst xs) ∧ xs.length ≤ lim ∧
      compS (fun v H' Q' => evalS Φ elt (l ++ [some v]) H' Q') (fun H' => H' r = some (.lst xs)) xs [] H₁ fun ys H₂ => ∀ c, H₂ c = none → Q (.ref c) (H₂.set c (.lst ys))) := rfl
theorem x25 {src : E} {elt : E} {l : Loc} {H : AH} {Q : PQ} : evalS Φ (.cmpE src elt) l H Q = (evalS Φ src l H fun x H₁ => ∃ r xs, x = .ref r ∧ H₁ r = some (.lst xs) ∧ xs.length ≤ lim ∧
      compS (fun p H' Q' => ∃ i v, p = .int i ∧ xs[i.toNat]? = some v ∧ evalS Φ elt (l ++ [some (.int i), some v]) H' Q') (fun H' => H' r = some (.lst xs)) ((List.range xs.length).map fun i : Nat => .int (i : Int)) [] H₁ fun ys H₂ => ∀ c, H₂ c = none → Q (.ref c) (H₂.set c (.lst ys))) := rfl
theorem x26 {r : R} {elt : E} {l : Loc} {H : AH} {Q : PQ} : evalS Φ (.cmpR r elt) l H Q = (rangeS Φ r l H fun lo hi st H₁ => rangeOk lo hi st ∧
      compS (fun v H' Q' => evalS Φ elt (l ++ [some v]) H' Q') (fun _ => True) (rangeVs lo hi st) [] H₁ fun ys H₂ => ∀ c, H₂ c = none → Q (.ref c) (H₂.set c (.lst ys))) := rfl
theorem x27 {hi : E} {l : Loc} {H : AH} {Q : Int → Int → Int → AH → Prop} : rangeS Φ (.r1 hi) l H Q = (evalS Φ hi l H fun x H₁ => asI x fun i => Q 0 i 1 H₁) := rfl
theorem x28 {lo : E} {hi : E} {l : Loc} {H : AH} {Q : Int → Int → Int → AH → Prop} : rangeS Φ (.r2 lo hi) l H Q = (evalS Φ lo l H fun x H₁ => evalS Φ hi l H₁ fun y H₂ => asI x fun i => asI y fun j => Q i j 1 H₂) := rfl
theorem x29 {lo : E} {hi : E} {st : E} {l : Loc} {H : AH} {Q : Int → Int → Int → AH → Prop} : rangeS Φ (.r3 lo hi st) l H Q = (evalS Φ lo l H fun x H₁ => evalS Φ hi l H₁ fun y H₂ => evalS Φ st l H₂ fun z H₃ => asI x fun i => asI y fun j => asI z fun k => Q i j k H₃) := rfl
theorem x30 {op : Cp} {a : E} {b : E} {l : Loc} {H : AH} {Q : Bool → AH → Prop} : condS Φ (.cmp op a b) l H Q = (evalS Φ a l H fun x H₁ => evalS Φ b l H₁ fun y H₂ => cmpS op x y H₂ fun r => Q r H₂) := rfl
theorem x31 {o₁ : Cp} {o₂ : Cp} {a : E} {b : E} {c : E} {l : Loc} {H : AH} {Q : Bool → AH → Prop} : condS Φ (.cmp2 o₁ o₂ a b c) l H Q = (evalS Φ a l H fun x H₁ => evalS Φ b l H₁ fun y H₂ => cmpS o₁ x y H₂ fun r => (r = false → Q false H₂) ∧ (r = true → evalS Φ c l H₂ fun z H₃ => cmpS o₂ y z H₃ fun r => Q r H₃)) := rfl
theorem x32 {a : C} {b : C} {l : Loc} {H : AH} {Q : Bool → AH → Prop} : condS Φ (.and a b) l H Q = (condS Φ a l H fun r H₁ => (r = false → Q false H₁) ∧ (r = true → condS Φ b l H₁ Q)) := rfl
theorem x33 {a : C} {b : C} {l : Loc} {H : AH} {Q : Bool → AH → Prop} : condS Φ (.or a b) l H Q = (condS Φ a l H fun r H₁ => (r = true → Q true H₁) ∧ (r = false → condS Φ b l H₁ Q)) := rfl
theorem x34 {a : C} {l : Loc} {H : AH} {Q : Bool → AH → Prop} : condS Φ (.not a) l H Q = (condS Φ a l H fun r H₁ => Q (!r) H₁) := rfl
theorem x35  {l : Loc} {H : AH} {Q : List V → AH → Prop} : evalsS Φ (.nil) l H Q = (Q [] H) := rfl
theorem x36 {e : E} {r : Es} {l : Loc} {H : AH} {Q : List V → AH → Prop} : evalsS Φ (.cons e r) l H Q = (evalS Φ e l H fun v H₁ => evalsS Φ r l H₁ fun vs H₂ => Q (v :: vs) H₂) := rfl
theorem x37 {i : Nat} {e : E} {l : Loc} {H : AH} {K : KQ} : execS Φ (.asg i e) l H K = (evalS Φ e l H fun v H₁ => K .next (l.set i (some v)) H₁) := rfl
theorem x38 {is : List Nat} {e : E} {l : Loc} {H : AH} {K : KQ} : execS Φ (.asgT is e) l H K = (evalS Φ e l H fun x H₁ => asR x fun r => asT (H₁ r) fun vs => vs.length = is.length ∧ K .next (setMany is vs l) H₁) := rfl
theorem x39 {is : List Nat} {es : Es} {l : Loc} {H : AH} {K : KQ} : execS Φ (.asgTT is es) l H K = (evalsS Φ es l H fun vs H₁ => vs.length = is.length ∧ K .next (setMany is vs l) H₁) := rfl
theorem x40 {a : E} {i : E} {v : E} {l : Loc} {H : AH} {K : KQ} : execS Φ (.setIdx a i v) l H K = (evalS Φ v l H fun z H₁ => evalS Φ a l H₁ fun x H₂ => evalS Φ i l H₂ fun y H₃ =>
      asR x fun r => asI y fun k => asL (H₃ r) fun xs => xs.length ≤ lim ∧ 0 ≤ k ∧ k < xs.length ∧ K .next l (H₃.set r (.lst (xs.set k.toNat z)))) := rfl
theorem x41 {i : Nat} {op : Op} {e : E} {l : Loc} {H : AH} {K : KQ} : execS Φ (.aug i op e) l H K = (varS l i fun u => asI u fun x => evalS Φ e l H fun y H₁ => asI y fun j => opOk op x j ∧ K .next (l.set i (some (.int (opV op x j)))) H₁) := rfl
theorem x42 {a : E} {v : E} {l : Loc} {H : AH} {K : KQ} : execS Φ (.app a v) l H K = (evalS Φ a l H fun x H₁ => asR x fun r => (asL (H₁ r) fun _ => True) ∧ evalS Φ v l H₁ fun y H₂ => asL (H₂ r) fun xs => xs.length ≤ lim ∧ K .next l (H₂.set r (.lst (xs ++ [y])))) := rfl
theorem x43 {a : E} {l : Loc} {H : AH} {K : KQ} : execS Φ (.rever a) l H K = (evalS Φ a l H fun x H₁ => asR x fun r => asL (H₁ r) fun xs => xs.length ≤ lim ∧ K .next l (H₁.set r (.lst xs.reverse))) := rfl
theorem x44 {c : C} {t : Ss} {e : Ss} {l : Loc} {H : AH} {K : KQ} : execS Φ (.ifs c t e) l H K = (condS Φ c l H fun r H₁ => (r = true → execsS Φ t l H₁ K) ∧ (r = false → execsS Φ e l H₁ K)) := rfl
theorem x45 {c : C} {b : Ss} {l : Loc} {H : AH} {K : KQ} : execS Φ (.whl c b) l H K = (∃ I : Nat → Loc → AH → Prop, (∃ n, I n l H) ∧ ∀ n l H, I n l H → condS Φ c l H fun r H₁ =>
      (r = true → execsS Φ b l H₁ fun f l' H' => match f with | .next => ∃ m, m < n ∧ I m l' H' | .ret v => K (.ret v) l' H') ∧ (r = false → K .next l H₁)) := rfl
theorem x46 {i : Nat} {r : R} {b : Ss} {l : Loc} {H : AH} {K : KQ} : execS Φ (.forR i r b) l H K = (rangeS Φ r l H fun lo hi st H₁ => rangeOk lo hi st ∧ ∃ I : Nat → Loc → AH → Prop, I 0 l H₁ ∧
      (∀ k l H, k < rangeLen lo hi st → I k l H → execsS Φ b (l.set i (some (.int (lo + (k : Int) * st)))) H fun f l' H' => match f with | .next => I (k + 1) l' H' | .ret v => K (.ret v) l' H') ∧
      (∀ l H, I (rangeLen lo hi st) l H → K .next l H)) := rfl
theorem x47 {i : Nat} {e : E} {b : Ss} {l : Loc} {H : AH} {K : KQ} : execS Φ (.forL i e b) l H K = (evalS Φ e l H fun x H₁ => asR x fun r => ∃ xs, xs.length ≤ lim ∧ ∃ I : Nat → Loc → AH → Prop, I 0 l H₁ ∧ (∀ k l H, I k l H → H r = some (.lst xs)) ∧
      (∀ k l H v, xs[k]? = some v → I k l H → execsS Φ b (l.set i (some v)) H fun f l' H' => match f with | .next => I (k + 1) l' H' | .ret v => K (.ret v) l' H') ∧
      (∀ l H, I xs.length l H → K .next l H)) := rfl
theorem x48 {i : Nat} {j : Nat} {e : E} {b : Ss} {l : Loc} {H : AH} {K : KQ} : execS Φ (.forE i j e b) l H K = (evalS Φ e l H fun x H₁ => asR x fun r => ∃ xs, xs.length ≤ lim ∧ ∃ I : Nat → Loc → AH → Prop, I 0 l H₁ ∧ (∀ k l H, I k l H → H r = some (.lst xs)) ∧
      (∀ k l H v, xs[k]? = some v → I k l H → execsS Φ b ((l.set i (some (.int (k : Int)))).set j (some v)) H fun f l' H' => match f with | .next => I (k + 1) l' H' | .ret v => K (.ret v) l' H') ∧
      (∀ l H, I xs.length l H → K .next l H)) := rfl
theorem x49 {e : E} {l : Loc} {H : AH} {K : KQ} : execS Φ (.ret e) l H K = (evalS Φ e l H fun v H₁ => K (.ret v) l H₁) := rfl
theorem x50 {e : E} {l : Loc} {H : AH} {K : KQ} : execS Φ (.exp e) l H K = (evalS Φ e l H fun _ H₁ => K .next l H₁) := rfl
theorem x51  {l : Loc} {H : AH} {K : KQ} : execS Φ (.bad) l H K = (False) := rfl
theorem x52  {l : Loc} {H : AH} {K : KQ} : execsS Φ (.nil) l H K = (K .next l H) := rfl
theorem x53 {s : S} {r : Ss} {l : Loc} {H : AH} {K : KQ} : execsS Φ (.cons s r) l H K = (execS Φ s l H fun f l' H' => match f with | .next => execsS Φ r l' H' K | .ret v => K (.ret v) l' H') := rfl
theorem x54 {v : V} {r : Loc} {P : V → Prop} : varS (some v :: r) 0 P = P v := rfl
theorem x55 {o : Option V} {r : Loc} {k : Nat} {P : V → Prop} : varS (o :: r) (k + 1) P = varS r k P := rfl
theorem x56 {i : Int} {P : Int → Prop} : asI (.int i) P = P i := rfl
theorem x57 {i : Nat} {P : Nat → Prop} : asR (.ref i) P = P i := rfl
theorem x58 {i : Nat} {P : Nat → Prop} : asF (.fn i) P = P i := rfl
theorem x59 {xs : List V} {P : List V → Prop} : asL (some (.lst xs)) P = P xs := rfl
theorem x60 {xs : List V} {P : List V → Prop} : asT (some (.tup xs)) P = P xs := rfl
theorem x61 {x y : Int} : opOk .add x y = True := rfl
theorem x62 {x y : Int} : opV .add x y = (x + y) := rfl
theorem x63 {x y : Int} : opOk .sub x y = True := rfl
theorem x64 {x y : Int} : opV .sub x y = (x - y) := rfl
theorem x65 {x y : Int} : opOk .mul x y = (x.natAbs < 2 ^ 64 ∧ y.natAbs < 2 ^ 64) := rfl
theorem x66 {x y : Int} : opV .mul x y = (x * y) := rfl
theorem x67 {x y : Int} : opOk .fdiv x y = (0 < y ∧ y < 2 ^ 64) := rfl
theorem x68 {x y : Int} : opV .fdiv x y = (x / y) := rfl
theorem x69 {x y : Int} : opOk .mod x y = (0 < y) := rfl
theorem x70 {x y : Int} : opV .mod x y = (x % y) := rfl
theorem x71 {x y : Int} : opOk .shl x y = (0 ≤ y ∧ y ≤ 1000 ∧ x.natAbs < 2 ^ 64) := rfl
theorem x72 {x y : Int} : opV .shl x y = (x * 2 ^ y.toNat) := rfl
theorem x73 {x y : Int} : opOk .shr x y = (0 ≤ y) := rfl
theorem x74 {x y : Int} : opV .shr x y = (x / 2 ^ y.toNat) := rfl
theorem x75 {x y : Int} : opOk .band x y = True := rfl
theorem x76 {x y : Int} : opV .band x y = (Builtin.bitAnd x y) := rfl
theorem x77 {x y : Int} : opOk .bor x y = True := rfl
theorem x78 {x y : Int} : opV .bor x y = (Builtin.bitOr x y) := rfl
theorem x79 {x y : Int} : opOk .pow x y = (0 ≤ y ∧ y ≤ 1000 ∧ x.natAbs < 2 ^ 64) := rfl
theorem x80 {x y : Int} : opV .pow x y = (x ^ y.toNat) := rfl
theorem x81 {op : Op} {i j : Int} {H : AH} {Q : PQ} : binS op (.int i) (.int j) H Q = (opOk op i j ∧ Q (.int (opV op i j)) H) := rfl
theorem x82 {op : Op} {a b : Nat} {H : AH} {Q : PQ} : binS op (.ref a) (.ref b) H Q = (op = .add ∧ ∃ xs ys, H a = some (.lst xs) ∧ H b = some (.lst ys) ∧ xs.length + ys.length ≤ lim ∧ ∀ c, H c = none → Q (.ref c) (H.set c (.lst (xs ++ ys)))) := rfl
theorem x83 {op : Op} {a : Nat} {n : Int} {H : AH} {Q : PQ} : binS op (.ref a) (.int n) H Q = (op = .mul ∧ ∃ x, H a = some (.lst [x]) ∧ -(lim : Int) ≤ n ∧ n ≤ lim ∧ ∀ c, H c = none → Q (.ref c) (H.set c (.lst (List.replicate n.toNat x)))) := rfl
theorem x84 {x y : Int} {H : AH} {Q : Bool → Prop} : cmpS .lt (.int x) (.int y) H Q = Q (decide (x < y)) := rfl
theorem x85 {x y : Int} {H : AH} {Q : Bool → Prop} : cmpS .le (.int x) (.int y) H Q = Q (decide (x ≤ y)) := rfl
theorem x86 {x y : Int} {H : AH} {Q : Bool → Prop} : cmpS .gt (.int x) (.int y) H Q = Q (decide (y < x)) := rfl
theorem x87 {x y : Int} {H : AH} {Q : Bool → Prop} : cmpS .ge (.int x) (.int y) H Q = Q (decide (y ≤ x)) := rfl
theorem x88 {x y : Int} {H : AH} {Q : Bool → Prop} : cmpS .eq (.int x) (.int y) H Q = Q (decide (x = y)) := rfl
theorem x89 {x y : Int} {H : AH} {Q : Bool → Prop} : cmpS .ne (.int x) (.int y) H Q = Q (!decide (x = y)) := rfl
theorem x90 {i : Int} {b : Nat} {H : AH} {Q : Bool → Prop} : cmpS .isin (.int i) (.ref b) H Q = (Cp.isin = .isin ∧ ∃ js, IL H b js ∧ Q (decide (i ∈ js))) := rfl
theorem x91 {i : Nat} {is : List Nat} {v : V} {vs : List V} {l : Loc} : setMany (i :: is) (v :: vs) l = setMany is vs (l.set i (some v)) := rfl
theorem x92 {l : Loc} : setMany [] [] l = l := rfl
theorem yz0 {α : Type} {a : α} {l : List α} : (a :: l)[0]? = some a := rfl
theorem yz1 {α : Type} {a : α} {l : List α} {n : Nat} : (a :: l)[n + 1]? = l[n]? := rfl
theorem yz2 {α : Type} {a b : α} {l : List α} : (a :: l).set 0 b = b :: l := rfl
theorem yz3 {α : Type} {a b : α} {l : List α} {n : Nat} : (a :: l).set (n + 1) b = a :: l.set n b := rfl
theorem yz4 {α : Type} {β : Type} {f : α → β} {a : α} {l : List α} : (a :: l).map f = f a :: l.map f := rfl
theorem yz5 {α : Type} {β : Type} {f : α → β} : ([] : List α).map f = [] := rfl
theorem yz6 {α : Type} {a : α} {l r : List α} : (a :: l) ++ r = a :: (l ++ r) := rfl
theorem yz7 {α : Type} {l : List α} : [] ++ l = l := rfl
theorem yz8 {α : Type} {a : α} {n : Nat} : List.replicate (n + 1) a = a :: List.replicate n a := rfl
theorem yz9 {α : Type} {a : α} : List.replicate 0 a = [] := rfl
theorem yz10 {α : Type} {a : α} {l : List α} : (a :: l).length = l.length + 1 := rfl
theorem yz11 {α : Type} : ([] : List α).length = 0 := rfl
end Mine
end
section
open PySem PySem.Calls PySem.W PyProof.Rows
set_option maxRecDepth 100000
namespace Mine
variable {B : Int}
noncomputable def Sub (H H' : AH) : Prop := ∀ b ob, H b = some ob → H' b = some ob
theorem Sub.refl {H : AH} : Sub H H := fun _ _ h => h
theorem Sub.trans {H H' H'' : AH} (a : Sub H H') (b : Sub H' H'') : Sub H H'' := fun c ob h => b c ob (a c ob h)
theorem Sub.set {H H' : AH} {c : Nat} {ob : Ob} (a : Sub H H') (hc : H c = none) : Sub H (H'.set c ob) := fun b ob' h => by
  rw [AH.set_ne fun q => by rw [q, hc] at h; cases h]; exact a b ob' h
theorem Sub.new {H : AH} {c : Nat} {ob : Ob} (hc : H c = none) : Sub H (H.set c ob) := Sub.refl.set hc
theorem Sub.none {H H' : AH} (a : Sub H H') {c : Nat} (h : H' c = none) : H c = none := by
  cases q : H c with
  | none => rfl
  | some ob => rw [a c ob q] at h; cases h
theorem Sub.il {H H' : AH} (a : Sub H H') {c : Nat} {xs : List Int} (h : IL H c xs) : IL H' c xs := a c _ h
theorem il_set {H : AH} {c : Nat} {xs : List Int} : IL (H.set c (.lst (xs.map V.int))) c xs := AH.set_self
theorem il_ne {H : AH} {c d : Nat} {xs : List Int} (h : IL H c xs) (hd : H d = none) : c ≠ d := fun q => by
  unfold IL at h; rw [q, hd] at h; cases h
noncomputable def Ret (H : AH) (xs : List Int) (Q : PQ) : Prop := ∀ c H', H c = none → Sub H H' → IL H' c xs → Q (.ref c) H'
theorem call_of {k : Nat} {d : FD} {n : Nat} {vs : List V} {H : AH} {Q : PQ} (hn : 1 ≤ n) (h : theDefs[k]? = some d) (hl : vs.length = d.nargs)
    (b : execsS (callS theDefs (n - 1)) d.body (vs.map some ++ List.replicate (d.nvars - d.nargs) none) H fun f _ H' => match f with | .next => Q .none H' | .ret v => Q v H') : callS theDefs n k vs H Q := by
  obtain ⟨m, rfl⟩ : ∃ m, n = m + 1 := ⟨n - 1, by exact o105 hn⟩
  exact ⟨d, h, hl, b⟩
noncomputable def forRS (Φ : Phi) (i : Nat) (b : Ss) (lo hi st : Int) (l : Loc) (H₁ : AH) (K : KQ) : Prop := rangeOk lo hi st ∧ ∃ I : Nat → Loc → AH → Prop, I 0 l H₁ ∧
      (∀ k l H, k < rangeLen lo hi st → I k l H → execsS Φ b (l.set i (some (.int (lo + (k : Int) * st)))) H fun f l' H' => match f with | .next => I (k + 1) l' H' | .ret v => K (.ret v) l' H') ∧
      (∀ l H, I (rangeLen lo hi st) l H → K .next l H)
noncomputable def forLS (Φ : Phi) (i : Nat) (b : Ss) (r : Nat) (xs : List V) (l : Loc) (H₁ : AH) (K : KQ) : Prop := ∃ I : Nat → Loc → AH → Prop, I 0 l H₁ ∧ (∀ k l H, I k l H → H r = some (.lst xs)) ∧
      (∀ k l H v, xs[k]? = some v → I k l H → execsS Φ b (l.set i (some v)) H fun f l' H' => match f with | .next => I (k + 1) l' H' | .ret v => K (.ret v) l' H') ∧
      (∀ l H, I xs.length l H → K .next l H)
noncomputable def forES (Φ : Phi) (i j : Nat) (b : Ss) (r : Nat) (xs : List V) (l : Loc) (H₁ : AH) (K : KQ) : Prop := ∃ I : Nat → Loc → AH → Prop, I 0 l H₁ ∧ (∀ k l H, I k l H → H r = some (.lst xs)) ∧
      (∀ k l H v, xs[k]? = some v → I k l H → execsS Φ b ((l.set i (some (.int (k : Int)))).set j (some v)) H fun f l' H' => match f with | .next => I (k + 1) l' H' | .ret v => K (.ret v) l' H') ∧
      (∀ l H, I xs.length l H → K .next l H)
variable {Φ : Phi}
theorem forR_eq {i : Nat} {r : R} {b : Ss} {l : Loc} {H : AH} {K : KQ} : execS Φ (.forR i r b) l H K = rangeS Φ r l H fun lo hi st H₁ => forRS Φ i b lo hi st l H₁ K := rfl
theorem forL_eq {i : Nat} {e : E} {b : Ss} {l : Loc} {H : AH} {K : KQ} : execS Φ (.forL i e b) l H K = evalS Φ e l H fun x H₁ => asR x fun r => ∃ xs, xs.length ≤ lim ∧ forLS Φ i b r xs l H₁ K := rfl
theorem forE_eq {i j : Nat} {e : E} {b : Ss} {l : Loc} {H : AH} {K : KQ} : execS Φ (.forE i j e b) l H K = evalS Φ e l H fun x H₁ => asR x fun r => ∃ xs, xs.length ≤ lim ∧ forES Φ i j b r xs l H₁ K := rfl
theorem whl_in {c : C} {b : Ss} {l : Loc} {H : AH} {K : KQ} (I : Nat → Loc → AH → Prop) (n : Nat) (h0 : I n l H)
    (step : ∀ n l H, I n l H → condS Φ c l H fun r H₁ => (r = true → execsS Φ b l H₁ fun f l' H' => match f with | .next => ∃ m, m < n ∧ I m l' H' | .ret v => K (.ret v) l' H') ∧ (r = false → K .next l H₁)) : execS Φ (.whl c b) l H K := by
  exact ⟨I, ⟨n, h0⟩, step⟩
theorem forL_in {i : Nat} {b : Ss} {r : Nat} {xs : List Int} {l : Loc} {H : AH} {K : KQ} (I : Nat → Loc → AH → Prop) (h0 : I 0 l H) (hs : ∀ k l H, I k l H → IL H r xs)
    (step : ∀ k l H x, xs[k]? = some x → I k l H → execsS Φ b (l.set i (some (.int x))) H fun f l' H' => match f with | .next => I (k + 1) l' H' | .ret v => K (.ret v) l' H') (fin : ∀ l H, I xs.length l H → K .next l H) :
    forLS Φ i b r (xs.map V.int) l H K := by
  refine ⟨I, h0, hs, fun k l H v hv hI => ?_, fun l H hI => fin l H (by simpa using hI)⟩
  rw [List.getElem?_map] at hv
  cases q : xs[k]? with
  | none => rw [q] at hv; cases hv
  | some x => rw [q] at hv; cases hv; exact step k l H x q hI
theorem forE_in {i j : Nat} {b : Ss} {r : Nat} {xs : List Int} {l : Loc} {H : AH} {K : KQ} (I : Nat → Loc → AH → Prop) (h0 : I 0 l H) (hs : ∀ k l H, I k l H → IL H r xs)
    (step : ∀ k l H x, xs[k]? = some x → I k l H → execsS Φ b ((l.set i (some (.int (k : Int)))).set j (some (.int x))) H fun f l' H' => match f with | .next => I (k + 1) l' H' | .ret v => K (.ret v) l' H') (fin : ∀ l H, I xs.length l H → K .next l H) :
    forES Φ i j b r (xs.map V.int) l H K := by
  refine ⟨I, h0, hs, fun k l H v hv hI => ?_, fun l H hI => fin l H (by simpa using hI)⟩
  rw [List.getElem?_map] at hv
  cases q : xs[k]? with
  | none => rw [q] at hv; cases hv
  | some x => rw [q] at hv; cases hv; exact step k l H x q hI
theorem rangeLen_up (lo hi : Int) : rangeLen lo hi 1 = (hi - lo).toNat := by
  unfold rangeLen Builtin.Range.rangeSize
  simp only [show (1 : Int) > 0 by decide, if_true, Int.ediv_one]
  split <;> (first | exact o106 | exact o107 (by assumption))
theorem rangeLen_down (lo hi : Int) : rangeLen lo hi (-1) = (lo - hi).toNat := by
  unfold rangeLen Builtin.Range.rangeSize
  simp only [show ¬ ((-1 : Int) > 0) by decide, if_false, Int.neg_neg, Int.ediv_one]
  split <;> (first | exact o106 | exact o108 (by assumption))
theorem rangeOk_up {lo hi : Int} (h1 : -1 ≤ lo) (h2 : lo ≤ 1000000) (h3 : -1 ≤ hi) (h4 : hi ≤ 1000000) : rangeOk lo hi 1 := by
  refine ⟨by decide, by decide, ?_, ?_⟩
  · have h5 : 0 ≤ Builtin.Range.rangeSize lo hi 1 ∧ Builtin.Range.rangeSize lo hi 1 ≤ 1000001 := by
      unfold Builtin.Range.rangeSize
      simp only [show (1 : Int) > 0 by decide, if_true, Int.ediv_one]
      split <;> (first | exact o109 h1 h4 (by assumption) | exact o110)
    unfold Builtin.Range.small Builtin.Range.rangeFitsLong
    generalize Builtin.Range.rangeSize lo hi 1 = z at h5
    simp only [show (1 : Int) > 0 by decide, if_true, Bool.and_eq_true, Bool.or_eq_true, decide_eq_true_eq, beq_iff_eq]
    exact o111 h1 h2 h3 h4 h5.1 h5.2
  · rw [rangeLen_up]; unfold lim; exact o112 h1 h4
theorem rangeOk_down {lo hi : Int} (h1 : -1 ≤ lo) (h2 : lo ≤ 1000000) (h3 : -1 ≤ hi) (h4 : hi ≤ 1000000) : rangeOk lo hi (-1) := by
  refine ⟨by decide, by decide, ?_, ?_⟩
  · have h5 : 0 ≤ Builtin.Range.rangeSize lo hi (-1) ∧ Builtin.Range.rangeSize lo hi (-1) ≤ 1000001 := by
      unfold Builtin.Range.rangeSize
      simp only [show ¬ ((-1 : Int) > 0) by decide, if_false, Int.neg_neg, Int.ediv_one]
      split <;> (first | exact o113 h2 h3 (by assumption) | exact o110)
    unfold Builtin.Range.small Builtin.Range.rangeFitsLong
    generalize Builtin.Range.rangeSize lo hi (-1) = z at h5
    simp only [show ¬ ((-1 : Int) > 0) by decide, if_false, Bool.and_eq_true, Bool.or_eq_true, decide_eq_true_eq, beq_iff_eq]
    exact o114 h1 h2 h3 h4 h5.1 h5.2
  · rw [rangeLen_down]; unfold lim; exact o115 h2 h3
theorem forR_down {i n : Nat} {b : Ss} {l : Loc} {H : AH} {K : KQ} {lo : Int} (hlo : lo = (n : Int) - 1) (hn : n ≤ 1000000) (J : Nat → Loc → AH → Prop) (h0 : J n l H)
    (step : ∀ m l H, m < n → J (m + 1) l H → execsS Φ b (l.set i (some (.int (m : Int)))) H fun f l' H' => match f with | .next => J m l' H' | .ret v => K (.ret v) l' H')
    (fin : ∀ l H, J 0 l H → K .next l H) : forRS Φ i b lo (-1) (-1) l H K := by
  subst hlo
  have hr : rangeLen ((n : Int) - 1) (-1) (-1) = n := by rw [rangeLen_down]; exact o116
  refine ⟨rangeOk_down (by exact o117) (by exact o118 hn) (by exact o119) (by exact o120), fun k l H => J (n - k) l H, h0, fun k l H hk hJ => ?_, fun l H hJ => fin l H (by rw [hr, Nat.sub_self] at hJ; exact hJ)⟩
  rw [hr] at hk
  have := step (n - k - 1) l H (by exact o121 hk) (by rw [show n - k - 1 + 1 = n - k by exact o122 hk]; exact hJ)
  show execsS Φ b (l.set i (some (.int ((n : Int) - 1 + (k : Int) * -1)))) H fun f l' H' => match f with | .next => J (n - (k + 1)) l' H' | .ret v => K (.ret v) l' H'
  rw [show ((n : Int) - 1 + (k : Int) * -1) = ((n - k - 1 : Nat) : Int) by exact o123 hk, show n - (k + 1) = n - k - 1 by exact o124]
  exact this
theorem forR_up {i a n : Nat} {b : Ss} {l : Loc} {H : AH} {K : KQ} {lo hi : Int} (hlo : lo = (a : Int)) (hhi : hi = (n : Int)) (ha : a ≤ n) (hn : n ≤ 1000000) (J : Nat → Loc → AH → Prop) (h0 : J a l H)
    (step : ∀ m l H, a ≤ m → m < n → J m l H → execsS Φ b (l.set i (some (.int (m : Int)))) H fun f l' H' => match f with | .next => J (m + 1) l' H' | .ret v => K (.ret v) l' H')
    (fin : ∀ l H, J n l H → K .next l H) : forRS Φ i b lo hi 1 l H K := by
  subst hlo hhi
  have hr : rangeLen (a : Int) (n : Int) 1 = n - a := by rw [rangeLen_up]; exact o125
  refine ⟨rangeOk_up (by exact o126) (by exact o127 ha hn) (by exact o126) (by exact o128 hn), fun k l H => J (a + k) l H, h0, fun k l H hk hJ => ?_, fun l H hJ => fin l H (by rw [hr, show a + (n - a) = n by exact o62 ha] at hJ; exact hJ)⟩
  rw [hr] at hk
  have := step (a + k) l H (by exact o55) (by exact o129 hk) hJ
  show execsS Φ b (l.set i (some (.int ((a : Int) + (k : Int) * 1)))) H fun f l' H' => match f with | .next => J (a + (k + 1)) l' H' | .ret v => K (.ret v) l' H'
  rw [show ((a : Int) + (k : Int) * 1) = ((a + k : Nat) : Int) by exact o130, show a + (k + 1) = a + k + 1 by exact o131]
  exact this
noncomputable def idxS (x y : V) (H₂ : AH) (Q : PQ) : Prop := ∃ r k xs v, x = .ref r ∧ y = .int k ∧ H₂ r = some (.lst xs) ∧ xs.length ≤ lim ∧ ((0 ≤ k ∧ xs[k.toNat]? = some v) ∨ (k = -1 ∧ xs.getLast? = some v)) ∧ Q v H₂
theorem idx_eq {a i : E} {l : Loc} {H : AH} {Q : PQ} : evalS Φ (.idx a i) l H Q = evalS Φ a l H fun x H₁ => evalS Φ i l H₁ fun y H₂ => idxS x y H₂ Q := rfl
theorem idx_int {H : AH} {r : Nat} {xs : List Int} {k : Int} {y : Int} {Q : PQ} (h : IL H r xs) (hl : xs.length ≤ lim) (hk : 0 ≤ k) (hx : xs[k.toNat]? = some y) (q : Q (.int y) H) : idxS (.ref r) (.int k) H Q :=
  ⟨r, k, _, _, rfl, rfl, h, by simpa using hl, .inl ⟨hk, by rw [List.getElem?_map, hx]; rfl⟩, q⟩
theorem idx_nat {H : AH} {r : Nat} {xs : List Int} {k : Int} (i : Nat) {y : Int} {Q : PQ} (h : IL H r xs) (hl : xs.length ≤ lim) (hk : k = (i : Int)) (hx : xs[i]? = some y) (q : Q (.int y) H) : idxS (.ref r) (.int k) H Q :=
  idx_int h hl (by exact o132 hk) (by subst hk; simpa using hx) q
theorem idx_last {H : AH} {r : Nat} {xs : List Int} {y : Int} {Q : PQ} (h : IL H r xs) (hl : xs.length ≤ lim) (hx : xs.getLast? = some y) (q : Q (.int y) H) : idxS (.ref r) (.int (-1)) H Q :=
  ⟨r, -1, _, _, rfl, rfl, h, by simpa using hl, .inr ⟨rfl, by rw [List.getLast?_map, hx]; rfl⟩, q⟩
theorem cut_il {H : AH} {a : Nat} {xs : List Int} {lo hi : Option Int} {Q : PQ} (h : IL H a xs) (hl : xs.length ≤ lim)
    (q : ∀ c, H c = none → Q (.ref c) (H.set c (.lst (((xs.drop (lo.elim 0 (clipAt xs.length))).take (hi.elim xs.length (clipAt xs.length) - lo.elim 0 (clipAt xs.length))).map V.int)))) : cutS (.ref a) lo hi H Q :=
  ⟨_, .inl h, by simpa using hl, fun c hc => by simpa [List.map_take, List.map_drop] using q c hc⟩
theorem clip_nat {n : Nat} {k : Int} (h : 0 ≤ k) (h' : k ≤ n) : clipAt n k = k.toNat := by
  unfold clipAt; rw [if_neg (by exact o133 h)]; exact o134 h'
theorem cut_top {H : AH} {a : Nat} {xs : List Int} {k : Int} {Q : PQ} (h : IL H a xs) (hl : xs.length ≤ lim) (hk : 0 ≤ k ∧ k ≤ xs.length)
    (q : ∀ c, H c = none → Q (.ref c) (H.set c (.lst ((xs.take k.toNat).map V.int)))) : cutS (.ref a) none (some k) H Q :=
  cut_il h hl fun c hc => by have := q c hc; simpa [clip_nat hk.1 hk.2] using this
theorem normal_ok {n : Nat} (hn : 1 ≤ n) {H : AH} {a : Nat} {xs : List Int} {Q : PQ} (ha : IL H a xs) (hl : xs.length ≤ lim) (h : Ret H (norm xs) Q) : callS theDefs n 0 [.ref a] H Q := by
  refine call_of hn rfl rfl ?_
  have ha' : H a = some (.lst (xs.map V.int)) := ha
  simp only [x0, x1, x2, x3, x4, x5, x6, x7, x9, x10, x11, x12, x13, x14, x15, x16, x17, x18, x19, x20, x21, x22, x23, x27, x28, x29, x30, x31, x32, x33, x34, x35, x36, x37, x38, x39, x40, x41, x42, x43, x44, x49, x50, x51, x52, x53, forR_eq, forL_eq, forE_eq, idx_eq, x54, x55, x56, x57, x58, x59, x60, x61, x62, x63, x64, x65, x66, x67, x68, x69, x70, x71, x72, x73, x74, x75, x76, x77, x78, x79, x80, x81, x82, x83, x84, x85, x86, x87, x88, x89, x90, x91, x92, yz0, yz1, yz2, yz3, Option.some.injEq, exists_eq_left', exists_eq_left, exists_and_left, V.ref.injEq, V.int.injEq, V.fn.injEq, V.bool.injEq, Ob.lst.injEq, Ob.tup.injEq, decide_eq_true_eq, decide_eq_false_iff_not, Bool.not_eq_true', Bool.not_eq_false', Bool.not_true, Bool.not_false, List.length_map, yz4, yz5, yz6, yz7, yz8, yz9, yz10, yz11, true_and, and_true, reduceCtorEq, Bool.false_eq_true, Bool.true_eq_false, if_true, if_false, false_implies, true_implies, forall_const, and_self, false_and, and_false, or_false, false_or, implies_true, Nat.reduceAdd, Nat.reduceSub, ne_eq, not_true_eq_false, not_false_eq_true, Nat.zero_le, exists_eq', exists_eq, Int.toNat_natCast, AH.set_self, List.cons.injEq, f_normal, ha', hl]
  refine whl_in (fun k l H' => ∃ e : Nat, l = [some (.ref a), some (.int (e : Int))] ∧ H = H' ∧ e = k ∧ e ≤ xs.length ∧ ∀ (i : Nat) x, e ≤ i → xs[i]? = some x → x = 0) xs.length ⟨_, rfl, rfl, rfl, Nat.le_refl _, fun i x hi hx => by rw [List.getElem?_eq_none hi] at hx; cases hx⟩ ?_
  rintro _ _ _ ⟨e, rfl, rfl, rfl, he, hz⟩
  simp only [x0, x1, x2, x3, x4, x5, x6, x7, x9, x10, x11, x12, x13, x14, x15, x16, x17, x18, x19, x20, x21, x22, x23, x27, x28, x29, x30, x31, x32, x33, x34, x35, x36, x37, x38, x39, x40, x41, x42, x43, x44, x49, x50, x51, x52, x53, forR_eq, forL_eq, forE_eq, idx_eq, x54, x55, x56, x57, x58, x59, x60, x61, x62, x63, x64, x65, x66, x67, x68, x69, x70, x71, x72, x73, x74, x75, x76, x77, x78, x79, x80, x81, x82, x83, x84, x85, x86, x87, x88, x89, x90, x91, x92, yz0, yz1, yz2, yz3, Option.some.injEq, exists_eq_left', exists_eq_left, exists_and_left, V.ref.injEq, V.int.injEq, V.fn.injEq, V.bool.injEq, Ob.lst.injEq, Ob.tup.injEq, decide_eq_true_eq, decide_eq_false_iff_not, Bool.not_eq_true', Bool.not_eq_false', Bool.not_true, Bool.not_false, List.length_map, yz4, yz5, yz6, yz7, yz8, yz9, yz10, yz11, true_and, and_true, reduceCtorEq, Bool.false_eq_true, Bool.true_eq_false, if_true, if_false, false_implies, true_implies, forall_const, and_self, false_and, and_false, or_false, false_or, implies_true, Nat.reduceAdd, Nat.reduceSub, ne_eq, not_true_eq_false, not_false_eq_true, Nat.zero_le, exists_eq', exists_eq, Int.toNat_natCast, AH.set_self, List.cons.injEq, ha', hl]
  have fin : (e = 0 ∨ ∃ x, xs[e - 1]? = some x ∧ x ≠ 0) → cutS (.ref a) none (some (e : Int)) H Q := fun he' => cut_top ha hl (by exact o135 he) fun c hc => by
    rw [Int.toNat_natCast, ← norm_take he hz he']
    exact h c _ hc (.new hc) il_set
  refine ⟨fun h0 => fin (.inl (by exact o136 h0)), fun h0 => ?_⟩
  have hx := List.getElem?_eq_getElem (l := xs) (i := e - 1) (by exact o137 he h0)
  refine idx_nat (e - 1) ha hl (by exact o138 h0) hx ?_
  try simp only [x0, x1, x2, x3, x4, x5, x6, x7, x9, x10, x11, x12, x13, x14, x15, x16, x17, x18, x19, x20, x21, x22, x23, x27, x28, x29, x30, x31, x32, x33, x34, x35, x36, x37, x38, x39, x40, x41, x42, x43, x44, x49, x50, x51, x52, x53, forR_eq, forL_eq, forE_eq, idx_eq, x54, x55, x56, x57, x58, x59, x60, x61, x62, x63, x64, x65, x66, x67, x68, x69, x70, x71, x72, x73, x74, x75, x76, x77, x78, x79, x80, x81, x82, x83, x84, x85, x86, x87, x88, x89, x90, x91, x92, yz0, yz1, yz2, yz3, Option.some.injEq, exists_eq_left', exists_eq_left, exists_and_left, V.ref.injEq, V.int.injEq, V.fn.injEq, V.bool.injEq, Ob.lst.injEq, Ob.tup.injEq, decide_eq_true_eq, decide_eq_false_iff_not, Bool.not_eq_true', Bool.not_eq_false', Bool.not_true, Bool.not_false, List.length_map, yz4, yz5, yz6, yz7, yz8, yz9, yz10, yz11, true_and, and_true, reduceCtorEq, Bool.false_eq_true, Bool.true_eq_false, if_true, if_false, false_implies, true_implies, forall_const, and_self, false_and, and_false, or_false, false_or, implies_true, Nat.reduceAdd, Nat.reduceSub, ne_eq, not_true_eq_false, not_false_eq_true, Nat.zero_le, exists_eq', exists_eq, Int.toNat_natCast, AH.set_self, List.cons.injEq]
  refine ⟨fun h1 => ⟨e - 1, by exact o139 h0, e - 1, ?_, rfl, by exact o140 he, fun i x hi hx' => ?_⟩, fun h1 => fin (.inr ⟨_, hx, h1⟩)⟩
  · rw [show ((e - 1 : Nat) : Int) = (e : Int) - 1 by exact o141 h0]
  · by_cases hie : i = e - 1
    · rw [hie, hx] at hx'; cases hx'; exact h1
    · exact hz i x (by exact o142 hi hie) hx'
end Mine
end
section
open PySem PySem.Calls PySem.W PyProof.Rows
set_option maxRecDepth 100000
namespace Mine
variable {B : Int} {Φ : Phi}
theorem WOk.pow {w : Nat} (h : WOk w B) : (2 : Int) ^ w = B := h.eq.symm
theorem WOk.nn {w : Nat} (_ : WOk w B) : 0 ≤ (w : Int) := by exact o143
theorem WOk.k {w : Nat} (h : WOk w B) : (w : Int) ≤ 1000 := by have := h.rng; exact o144 this.2
theorem one64 : (1 : Int).natAbs < 2 ^ 64 := by decide
theorem small64 {x : Int} (h : 0 ≤ x ∧ x ≤ 100000) : x.natAbs < 2 ^ 64 := by exact o145 h.1 h.2
theorem pow_mono {B : Int} (h : 2 ≤ B) : ∀ k : Nat, (2 : Int) ^ k ≤ B ^ k
  | 0 => by simp
  | k + 1 => by
    rw [Int.pow_succ, Int.pow_succ]
    exact Int.mul_le_mul (pow_mono h k) h (by decide) (Int.le_trans (Int.le_of_lt (Int.pow_pos (by decide))) (pow_mono h k))
theorem pow_le {B : Int} (h : 1 ≤ B) {k m : Nat} (hk : k ≤ m) : B ^ k ≤ B ^ m := by
  obtain ⟨d, rfl⟩ := Nat.exists_eq_add_of_le hk
  rw [Int.pow_add]
  have h1 : 0 < B ^ k := Int.pow_pos (by exact o146 h)
  have h2 : 0 < B ^ d := Int.pow_pos (by exact o146 h)
  have := Int.mul_le_mul_of_nonneg_left (show 1 ≤ B ^ d by exact o94 h2) (Int.le_of_lt h1)
  exact o147 this
theorem len_lim {B x : Int} (hB : 2 ≤ B) (h : 0 ≤ x) (hx : x < 2 ^ 64) : (limbs B x).length ≤ 64 := by
  refine limbs_len hB 64 x h (Int.lt_of_lt_of_le hx ?_)
  exact pow_mono hB 64
theorem le_lim {n : Nat} (h : n ≤ 1000000) : n ≤ lim := by unfold lim; exact o148 h
theorem nat_of_ok {n w : Nat} (hn : 1 ≤ n) (hw : WOk w B) {H : AH} {v : Int} (hv : 0 ≤ v) (hv' : v < 2 ^ 64) {Q : PQ} (h : Ret H (limbs B v) Q) : callS theDefs n 1 [.int v, .int w] H Q := by
  refine call_of hn rfl rfl ?_
  simp only [x0, x1, x2, x3, x4, x5, x6, x7, x9, x10, x11, x12, x13, x14, x15, x16, x17, x18, x19, x20, x21, x22, x23, x27, x28, x29, x30, x31, x32, x33, x34, x35, x36, x37, x38, x39, x40, x41, x42, x43, x44, x49, x50, x51, x52, x53, forR_eq, forL_eq, forE_eq, idx_eq, x54, x55, x56, x57, x58, x59, x60, x61, x62, x63, x64, x65, x66, x67, x68, x69, x70, x71, x72, x73, x74, x75, x76, x77, x78, x79, x80, x81, x82, x83, x84, x85, x86, x87, x88, x89, x90, x91, x92, yz0, yz1, yz2, yz3, Option.some.injEq, exists_eq_left', exists_eq_left, exists_and_left, V.ref.injEq, V.int.injEq, V.fn.injEq, V.bool.injEq, Ob.lst.injEq, Ob.tup.injEq, decide_eq_true_eq, decide_eq_false_iff_not, Bool.not_eq_true', Bool.not_eq_false', Bool.not_true, Bool.not_false, List.length_map, yz4, yz5, yz6, yz7, yz8, yz9, yz10, yz11, true_and, and_true, reduceCtorEq, Bool.false_eq_true, Bool.true_eq_false, if_true, if_false, false_implies, true_implies, forall_const, and_self, false_and, and_false, or_false, false_or, implies_true, Nat.reduceAdd, Nat.reduceSub, ne_eq, not_true_eq_false, not_false_eq_true, Nat.zero_le, exists_eq', exists_eq, Int.toNat_natCast, AH.set_self, List.cons.injEq, f_nat_of, hw.pow, hw.nn, hw.k, one64, Int.one_mul]
  refine ⟨fun q => by exact o149 hv q, fun _ c hc => ?_⟩
  have hl := len_lim hw.two hv hv'
  obtain ⟨I, hI⟩ : ∃ I : Nat → Loc → AH → Prop, I = fun k l H' => ∃ m fs, l = [some (.int m), some (.int w), some (.ref c), some (.int (B - 1))] ∧ Sub H H' ∧ IL H' c fs ∧ 0 ≤ m ∧ m.toNat = k ∧ fs ++ limbs B m = limbs B v := ⟨_, rfl⟩
  refine whl_in I v.toNat (by rw [hI]; exact ⟨v, [], rfl, .new hc, il_set (xs := []), hv, rfl, rfl⟩) fun k l H' hk => ?_
  rw [hI] at hk
  obtain ⟨m, fs, rfl, hs, hf, hm, rfl, he⟩ := hk
  have hf' : H' c = some (.lst (fs.map V.int)) := hf
  have hfl : fs.length ≤ lim := le_lim (by have := congrArg List.length he; rw [List.length_append] at this; exact o150 hl this)
  simp only [x0, x1, x2, x3, x4, x5, x6, x7, x9, x10, x11, x12, x13, x14, x15, x16, x17, x18, x19, x20, x21, x22, x23, x27, x28, x29, x30, x31, x32, x33, x34, x35, x36, x37, x38, x39, x40, x41, x42, x43, x44, x49, x50, x51, x52, x53, forR_eq, forL_eq, forE_eq, idx_eq, x54, x55, x56, x57, x58, x59, x60, x61, x62, x63, x64, x65, x66, x67, x68, x69, x70, x71, x72, x73, x74, x75, x76, x77, x78, x79, x80, x81, x82, x83, x84, x85, x86, x87, x88, x89, x90, x91, x92, yz0, yz1, yz2, yz3, Option.some.injEq, exists_eq_left', exists_eq_left, exists_and_left, V.ref.injEq, V.int.injEq, V.fn.injEq, V.bool.injEq, Ob.lst.injEq, Ob.tup.injEq, decide_eq_true_eq, decide_eq_false_iff_not, Bool.not_eq_true', Bool.not_eq_false', Bool.not_true, Bool.not_false, List.length_map, yz4, yz5, yz6, yz7, yz8, yz9, yz10, yz11, true_and, and_true, reduceCtorEq, Bool.false_eq_true, Bool.true_eq_false, if_true, if_false, false_implies, true_implies, forall_const, and_self, false_and, and_false, or_false, false_or, implies_true, Nat.reduceAdd, Nat.reduceSub, ne_eq, not_true_eq_false, not_false_eq_true, Nat.zero_le, exists_eq', exists_eq, Int.toNat_natCast, AH.set_self, List.cons.injEq, hf', hfl, hw.pow, hw.nn, band_mask hw]
  refine ⟨fun hm0 => ?_, fun hm0 => ?_⟩
  · have hd := ediv_lt_self hm0 hw.two
    refine ⟨(m / B).toNat, by exact o77 hm0 hd.2, ?_⟩
    rw [hI]
    refine ⟨m / B, fs ++ [m % B], rfl, hs.set hc, by simpa using il_set (H := H') (c := c) (xs := fs ++ [m % B]), hd.1, rfl, ?_⟩
    rw [List.append_assoc, ← he, limbs_pos hm0 hw.two]; rfl
  · have : m = 0 := by exact o151 hm hm0
    subst this
    rw [limbs_zero, List.append_nil] at he
    exact h c H' hc hs (he ▸ hf)
noncomputable def cmpVal (x y : Int) : Int := if x < y then -1 else if x = y then 0 else 1
theorem len_less (hB : 2 ≤ B) {x y : Int} (hx : 0 ≤ x) (hy : 0 ≤ y) (h : (limbs B x).length < (limbs B y).length) : x < y := by
  have h1 := val_lt (by exact o74 hB) (limbs_lim hB x hx)
  rw [limbs_val hB x hx] at h1
  have hy0 : 0 < y := by
    rcases Int.lt_or_eq_of_le hy with q | q
    · exact q
    · rw [← q, limbs_zero] at h; simp at h
  have h2 := limbs_len_lt hB hy0
  have h3 : B ^ (limbs B x).length ≤ B ^ ((limbs B y).length - 1) := pow_le (by exact o152 hB) (by exact o153 h)
  exact o154 h1 h2 h3
theorem val_at {xs : List Int} {m : Nat} {x : Int} (h : xs[m]? = some x) : val B xs = val B (xs.take m) + B ^ m * (x + B * val B (xs.drop (m + 1))) := by
  rw [val_td xs m]
  obtain ⟨hm, rfl⟩ := List.getElem?_eq_some_iff.mp h
  rw [List.drop_eq_getElem_cons hm, val]
theorem digit_less (hB : 2 ≤ B) {xs ys : List Int} (hx : Lim B xs) (hy : Lim B ys) {m : Nat} {x y : Int} (ex : xs[m]? = some x) (ey : ys[m]? = some y) (hd : xs.drop (m + 1) = ys.drop (m + 1)) (h : x < y) : val B xs < val B ys := by
  rw [val_at ex, val_at ey, hd]
  have h1 := val_lt (by exact o74 hB) (hx.take m)
  have h2 := val_nonneg (by exact o76 hB) (hy.take m)
  have hl : (xs.take m).length = m := by rw [List.length_take]; have := (List.getElem?_eq_some_iff.mp ex).1; exact o155 this
  rw [hl] at h1
  have h3 : B ^ m * (x + 1) ≤ B ^ m * y := Int.mul_le_mul_of_nonneg_left (by exact o156 h) (Int.le_of_lt (Int.pow_pos (by exact o74 hB)))
  generalize val B (ys.drop (m + 1)) = d
  have e1 : B ^ m * (x + B * d) = B ^ m * (x + 1) - B ^ m + B ^ m * (B * d) := by grind
  have e2 : B ^ m * (y + B * d) = B ^ m * y + B ^ m * (B * d) := by grind
  exact o157 h1 h2 h3 e1 e2
theorem compare_ok {n w : Nat} (hn : 1 ≤ n) (hw : WOk w B) {H : AH} {a b : Nat} {x y : Int} {Q : PQ} (ha : IL H a (limbs B x)) (hb : IL H b (limbs B y)) (hx : 0 ≤ x ∧ x < 2 ^ 64) (hy : 0 ≤ y ∧ y < 2 ^ 64) (q : Q (.int (cmpVal x y)) H) :
    callS theDefs n 2 [.ref a, .ref b] H Q := by
  refine call_of hn rfl rfl ?_
  have ha' : H a = some (.lst ((limbs B x).map V.int)) := ha
  have hb' : H b = some (.lst ((limbs B y).map V.int)) := hb
  have la := len_lim hw.two hx.1 hx.2
  have lb := len_lim hw.two hy.1 hy.2
  have la' : (limbs B x).length ≤ lim := le_lim (by exact o158 la)
  have lb' : (limbs B y).length ≤ lim := le_lim (by exact o158 lb)
  simp only [x0, x1, x2, x3, x4, x5, x6, x7, x9, x10, x11, x12, x13, x14, x15, x16, x17, x18, x19, x20, x21, x22, x23, x27, x28, x29, x30, x31, x32, x33, x34, x35, x36, x37, x38, x39, x40, x41, x42, x43, x44, x49, x50, x51, x52, x53, forR_eq, forL_eq, forE_eq, idx_eq, x54, x55, x56, x57, x58, x59, x60, x61, x62, x63, x64, x65, x66, x67, x68, x69, x70, x71, x72, x73, x74, x75, x76, x77, x78, x79, x80, x81, x82, x83, x84, x85, x86, x87, x88, x89, x90, x91, x92, yz0, yz1, yz2, yz3, Option.some.injEq, exists_eq_left', exists_eq_left, exists_and_left, V.ref.injEq, V.int.injEq, V.fn.injEq, V.bool.injEq, Ob.lst.injEq, Ob.tup.injEq, decide_eq_true_eq, decide_eq_false_iff_not, Bool.not_eq_true', Bool.not_eq_false', Bool.not_true, Bool.not_false, List.length_map, yz4, yz5, yz6, yz7, yz8, yz9, yz10, yz11, true_and, and_true, reduceCtorEq, Bool.false_eq_true, Bool.true_eq_false, if_true, if_false, false_implies, true_implies, forall_const, and_self, false_and, and_false, or_false, false_or, implies_true, Nat.reduceAdd, Nat.reduceSub, ne_eq, not_true_eq_false, not_false_eq_true, Nat.zero_le, exists_eq', exists_eq, Int.toNat_natCast, AH.set_self, List.cons.injEq, f_compare, ha', hb', la', lb']
  refine ⟨fun hne => ?_, fun he => ?_⟩
  · refine ⟨fun hl => ?_, fun hl => ?_⟩
    · have := len_less hw.two hx.1 hy.1 (by exact o159 hl)
      rw [cmpVal, if_pos this] at q; exact q
    · have := len_less hw.two hy.1 hx.1 (by exact o160 hne hl)
      rw [cmpVal, if_neg (by exact o161 this), if_neg (by exact o162 this)] at q; exact q
  · have he' : (limbs B x).length = (limbs B y).length := by exact o163 he
    obtain ⟨J, hJ⟩ : ∃ J : Nat → Loc → AH → Prop, J = fun m l H' => H = H' ∧ (∃ z, l = [some (.ref a), some (.ref b), z]) ∧ (limbs B x).drop m = (limbs B y).drop m := ⟨_, rfl⟩
    refine forR_down (n := (limbs B x).length) rfl (by exact o164 lb he) J (by rw [hJ]; exact ⟨rfl, ⟨_, rfl⟩, by rw [List.drop_eq_nil_of_le (Nat.le_refl _), List.drop_eq_nil_of_le (by exact o165 he)]⟩) (fun m l H' hm hj => ?_) fun l H' hj => ?_
    · rw [hJ] at hj
      obtain ⟨rfl, ⟨z, rfl⟩, hd⟩ := hj
      have ex := List.getElem?_eq_getElem (l := limbs B x) (i := m) hm
      have ey := List.getElem?_eq_getElem (l := limbs B y) (i := m) (by exact o166 he hm)
      try simp only [x0, x1, x2, x3, x4, x5, x6, x7, x9, x10, x11, x12, x13, x14, x15, x16, x17, x18, x19, x20, x21, x22, x23, x27, x28, x29, x30, x31, x32, x33, x34, x35, x36, x37, x38, x39, x40, x41, x42, x43, x44, x49, x50, x51, x52, x53, forR_eq, forL_eq, forE_eq, idx_eq, x54, x55, x56, x57, x58, x59, x60, x61, x62, x63, x64, x65, x66, x67, x68, x69, x70, x71, x72, x73, x74, x75, x76, x77, x78, x79, x80, x81, x82, x83, x84, x85, x86, x87, x88, x89, x90, x91, x92, yz0, yz1, yz2, yz3, Option.some.injEq, exists_eq_left', exists_eq_left, exists_and_left, V.ref.injEq, V.int.injEq, V.fn.injEq, V.bool.injEq, Ob.lst.injEq, Ob.tup.injEq, decide_eq_true_eq, decide_eq_false_iff_not, Bool.not_eq_true', Bool.not_eq_false', Bool.not_true, Bool.not_false, List.length_map, yz4, yz5, yz6, yz7, yz8, yz9, yz10, yz11, true_and, and_true, reduceCtorEq, Bool.false_eq_true, Bool.true_eq_false, if_true, if_false, false_implies, true_implies, forall_const, and_self, false_and, and_false, or_false, false_or, implies_true, Nat.reduceAdd, Nat.reduceSub, ne_eq, not_true_eq_false, not_false_eq_true, Nat.zero_le, exists_eq', exists_eq, Int.toNat_natCast, AH.set_self, List.cons.injEq]
      refine idx_nat m ha la' rfl ex (idx_nat m hb lb' rfl ey ?_)
      try simp only [x0, x1, x2, x3, x4, x5, x6, x7, x9, x10, x11, x12, x13, x14, x15, x16, x17, x18, x19, x20, x21, x22, x23, x27, x28, x29, x30, x31, x32, x33, x34, x35, x36, x37, x38, x39, x40, x41, x42, x43, x44, x49, x50, x51, x52, x53, forR_eq, forL_eq, forE_eq, idx_eq, x54, x55, x56, x57, x58, x59, x60, x61, x62, x63, x64, x65, x66, x67, x68, x69, x70, x71, x72, x73, x74, x75, x76, x77, x78, x79, x80, x81, x82, x83, x84, x85, x86, x87, x88, x89, x90, x91, x92, yz0, yz1, yz2, yz3, Option.some.injEq, exists_eq_left', exists_eq_left, exists_and_left, V.ref.injEq, V.int.injEq, V.fn.injEq, V.bool.injEq, Ob.lst.injEq, Ob.tup.injEq, decide_eq_true_eq, decide_eq_false_iff_not, Bool.not_eq_true', Bool.not_eq_false', Bool.not_true, Bool.not_false, List.length_map, yz4, yz5, yz6, yz7, yz8, yz9, yz10, yz11, true_and, and_true, reduceCtorEq, Bool.false_eq_true, Bool.true_eq_false, if_true, if_false, false_implies, true_implies, forall_const, and_self, false_and, and_false, or_false, false_or, implies_true, Nat.reduceAdd, Nat.reduceSub, ne_eq, not_true_eq_false, not_false_eq_true, Nat.zero_le, exists_eq', exists_eq, Int.toNat_natCast, AH.set_self, List.cons.injEq]
      refine ⟨fun hne => idx_nat m ha la' rfl ex (idx_nat m hb lb' rfl ey ?_), fun heq => ?_⟩
      · try simp only [x0, x1, x2, x3, x4, x5, x6, x7, x9, x10, x11, x12, x13, x14, x15, x16, x17, x18, x19, x20, x21, x22, x23, x27, x28, x29, x30, x31, x32, x33, x34, x35, x36, x37, x38, x39, x40, x41, x42, x43, x44, x49, x50, x51, x52, x53, forR_eq, forL_eq, forE_eq, idx_eq, x54, x55, x56, x57, x58, x59, x60, x61, x62, x63, x64, x65, x66, x67, x68, x69, x70, x71, x72, x73, x74, x75, x76, x77, x78, x79, x80, x81, x82, x83, x84, x85, x86, x87, x88, x89, x90, x91, x92, yz0, yz1, yz2, yz3, Option.some.injEq, exists_eq_left', exists_eq_left, exists_and_left, V.ref.injEq, V.int.injEq, V.fn.injEq, V.bool.injEq, Ob.lst.injEq, Ob.tup.injEq, decide_eq_true_eq, decide_eq_false_iff_not, Bool.not_eq_true', Bool.not_eq_false', Bool.not_true, Bool.not_false, List.length_map, yz4, yz5, yz6, yz7, yz8, yz9, yz10, yz11, true_and, and_true, reduceCtorEq, Bool.false_eq_true, Bool.true_eq_false, if_true, if_false, false_implies, true_implies, forall_const, and_self, false_and, and_false, or_false, false_or, implies_true, Nat.reduceAdd, Nat.reduceSub, ne_eq, not_true_eq_false, not_false_eq_true, Nat.zero_le, exists_eq', exists_eq, Int.toNat_natCast, AH.set_self, List.cons.injEq]
        have less : ∀ {u v : Int}, 0 ≤ u → 0 ≤ v → val B (limbs B u) < val B (limbs B v) → u < v := fun hu hv h => by rwa [limbs_val hw.two _ hu, limbs_val hw.two _ hv] at h
        refine ⟨fun hl => ?_, fun hl => ?_⟩
        · have := less hx.1 hy.1 (digit_less hw.two (limbs_lim hw.two x hx.1) (limbs_lim hw.two y hy.1) ex ey hd hl)
          rw [cmpVal, if_pos this] at q; exact q
        · have := less hy.1 hx.1 (digit_less hw.two (limbs_lim hw.two y hy.1) (limbs_lim hw.two x hx.1) ey ex hd.symm (by exact o167 hne hl))
          rw [cmpVal, if_neg (by exact o161 this), if_neg (by exact o162 this)] at q; exact q
      · rw [hJ]
        refine ⟨rfl, ⟨_, rfl⟩, ?_⟩
        rw [List.drop_eq_getElem_cons hm, List.drop_eq_getElem_cons (l := limbs B y) (i := m) (by exact o166 he hm), hd]
        have heq' : (limbs B x)[m] = (limbs B y)[m] := by exact o168 heq
        rw [heq']
    · rw [hJ] at hj
      obtain ⟨rfl, ⟨z, rfl⟩, hd⟩ := hj
      try simp only [x0, x1, x2, x3, x4, x5, x6, x7, x9, x10, x11, x12, x13, x14, x15, x16, x17, x18, x19, x20, x21, x22, x23, x27, x28, x29, x30, x31, x32, x33, x34, x35, x36, x37, x38, x39, x40, x41, x42, x43, x44, x49, x50, x51, x52, x53, forR_eq, forL_eq, forE_eq, idx_eq, x54, x55, x56, x57, x58, x59, x60, x61, x62, x63, x64, x65, x66, x67, x68, x69, x70, x71, x72, x73, x74, x75, x76, x77, x78, x79, x80, x81, x82, x83, x84, x85, x86, x87, x88, x89, x90, x91, x92, yz0, yz1, yz2, yz3, Option.some.injEq, exists_eq_left', exists_eq_left, exists_and_left, V.ref.injEq, V.int.injEq, V.fn.injEq, V.bool.injEq, Ob.lst.injEq, Ob.tup.injEq, decide_eq_true_eq, decide_eq_false_iff_not, Bool.not_eq_true', Bool.not_eq_false', Bool.not_true, Bool.not_false, List.length_map, yz4, yz5, yz6, yz7, yz8, yz9, yz10, yz11, true_and, and_true, reduceCtorEq, Bool.false_eq_true, Bool.true_eq_false, if_true, if_false, false_implies, true_implies, forall_const, and_self, false_and, and_false, or_false, false_or, implies_true, Nat.reduceAdd, Nat.reduceSub, ne_eq, not_true_eq_false, not_false_eq_true, Nat.zero_le, exists_eq', exists_eq, Int.toNat_natCast, AH.set_self, List.cons.injEq]
      have := limbs_inj hw.two hx.1 hy.1 (by simpa using hd)
      rw [cmpVal, if_neg (by exact o169 this), if_pos this] at q
      exact q
end Mine
end
section
open PySem PySem.Calls PySem.W PyProof.Rows
set_option maxRecDepth 100000
namespace Mine
variable {B : Int} {Φ : Phi}
noncomputable def tl : Ss → Ss
  | .cons _ r => r
  | r => r
theorem limbs_of_val (hB : 2 ≤ B) {xs : List Int} (h : Lim B xs) (hv : xs = [] ∨ B ^ (xs.length - 1) ≤ val B xs) : xs = limbs B (val B xs) := by
  refine limbs_of hB h fun hl => ?_
  rcases hv with rfl | hv
  · simp at hl
  · rw [List.getLast?_eq_getElem?] at hl
    have := val_at (B := B) hl
    have hlen := (List.getElem?_eq_some_iff.mp hl).1
    rw [show xs.length - 1 + 1 = xs.length by exact o170 hlen, List.drop_eq_nil_of_le (Nat.le_refl _)] at this
    have h1 := val_lt (by exact o74 hB) (h.take (xs.length - 1))
    rw [List.length_take, Nat.min_eq_left (by exact o171)] at h1
    simp [val] at this
    exact o172 hv h1 this
theorem val_snoc (xs : List Int) (x : Int) : val B (xs ++ [x]) = val B xs + B ^ xs.length * x := by rw [val_append]; simp [val]
theorem fin_carry (hB : 2 ≤ B) {fs : List Int} {c v : Int} (h : Lim B fs) (hc : 0 < c ∧ c < B) (hv : val B fs + B ^ fs.length * c = v) : fs ++ [c] = limbs B v := by
  rw [← hv, ← val_snoc]
  exact limbs_of hB (h.append (.one (by exact o173 hc.1 hc.2))) (by simp; exact o174 hc.1)
theorem fin_none (hB : 2 ≤ B) {fs : List Int} {c v : Int} (h : Lim B fs) (hc : c = 0) (hv : val B fs + B ^ fs.length * c = v) (hl : fs = [] ∨ B ^ (fs.length - 1) ≤ v) : fs = limbs B v := by
  subst hc
  rw [Int.mul_zero, Int.add_zero] at hv
  rw [← hv] at hl ⊢
  exact limbs_of_val hB h hl
theorem out_limb (hB : 0 < B) {fs : List Int} {c t v : Int} (h : val B fs + B ^ fs.length * c = v) : val B (fs ++ [(c + t) % B]) + B ^ (fs ++ [(c + t) % B]).length * ((c + t) / B) = v + B ^ fs.length * t := by
  rw [val_snoc, List.length_append, List.length_singleton, Int.pow_succ]
  have := Int.emod_add_mul_ediv (c + t) B
  generalize (c + t) % B = r at *
  generalize (c + t) / B = q at *
  have e : B ^ fs.length * (c + t) = B ^ fs.length * r + B ^ fs.length * (B * q) := by rw [← this]; grind
  grind
theorem val_next {xs : List Int} {m : Nat} {x : Int} (h : xs[m]? = some x) : val B (xs.take (m + 1)) = val B (xs.take m) + B ^ m * x := by
  obtain ⟨hm, rfl⟩ := List.getElem?_eq_some_iff.mp h
  rw [List.take_succ_eq_append_getElem hm, val_snoc, List.length_take, Nat.min_eq_left (by exact o175 hm)]
theorem emod_lim (hB : 0 < B) (x : Int) : 0 ≤ x % B ∧ x % B < B := ⟨Int.emod_nonneg _ (by exact o7 hB), Int.emod_lt_of_pos _ hB⟩
theorem len_ge (hB : 2 ≤ B) {x y : Int} (hx : 0 ≤ x) (hy : x ≤ y) {k : Nat} (hk : k = (limbs B x).length) (h0 : k ≠ 0) : B ^ (k - 1) ≤ y := by
  subst hk
  have : 0 < x := by
    rcases Int.lt_or_eq_of_le hx with q | q
    · exact q
    · rw [← q, limbs_zero] at h0; simp at h0
  have := limbs_len_lt hB this
  exact o176 hy this
theorem add_tail {w : Nat} (hw : WOk w B) {H : AH} {a b : Nat} {x y : Int} {K : KQ} (ha : IL H a (limbs B x)) (hb : IL H b (limbs B y)) (hx : 0 ≤ x ∧ x < 2 ^ 64) (hy : 0 ≤ y ∧ y < 2 ^ 64) (hxy : (limbs B y).length ≤ (limbs B x).length)
    (h : ∀ l c H', H c = none → Sub H H' → IL H' c (limbs B (x + y)) → K (.ret (.ref c)) l H') : execsS Φ (tl f_add.body) [some (.ref a), some (.ref b), some (.int w), none, none, none, none] H K := by
  have ha' : H a = some (.lst ((limbs B x).map V.int)) := ha
  have hb' : H b = some (.lst ((limbs B y).map V.int)) := hb
  have la := len_lim hw.two hx.1 hx.2
  have lb := len_lim hw.two hy.1 hy.2
  have la' : (limbs B x).length ≤ lim := le_lim (by exact o158 la)
  have lb' : (limbs B y).length ≤ lim := le_lim (by exact o158 lb)
  have hB := hw.two
  have wa := limbs_lim hB x hx.1
  have wb := limbs_lim hB y hy.1
  simp only [x0, x1, x2, x3, x4, x5, x6, x7, x9, x10, x11, x12, x13, x14, x15, x16, x17, x18, x19, x20, x21, x22, x23, x27, x28, x29, x30, x31, x32, x33, x34, x35, x36, x37, x38, x39, x40, x41, x42, x43, x44, x49, x50, x51, x52, x53, forR_eq, forL_eq, forE_eq, idx_eq, x54, x55, x56, x57, x58, x59, x60, x61, x62, x63, x64, x65, x66, x67, x68, x69, x70, x71, x72, x73, x74, x75, x76, x77, x78, x79, x80, x81, x82, x83, x84, x85, x86, x87, x88, x89, x90, x91, x92, yz0, yz1, yz2, yz3, Option.some.injEq, exists_eq_left', exists_eq_left, exists_and_left, V.ref.injEq, V.int.injEq, V.fn.injEq, V.bool.injEq, Ob.lst.injEq, Ob.tup.injEq, decide_eq_true_eq, decide_eq_false_iff_not, Bool.not_eq_true', Bool.not_eq_false', Bool.not_true, Bool.not_false, List.length_map, yz4, yz5, yz6, yz7, yz8, yz9, yz10, yz11, true_and, and_true, reduceCtorEq, Bool.false_eq_true, Bool.true_eq_false, if_true, if_false, false_implies, true_implies, forall_const, and_self, false_and, and_false, or_false, false_or, implies_true, Nat.reduceAdd, Nat.reduceSub, ne_eq, not_true_eq_false, not_false_eq_true, Nat.zero_le, exists_eq', exists_eq, Int.toNat_natCast, AH.set_self, List.cons.injEq, tl, f_add, hw.pow, hw.nn, hw.k, one64, Int.one_mul]
  intro c hc
  have hac : (H.set c (.lst [])) a = some (.lst ((limbs B x).map V.int)) := (Sub.new hc).il ha
  have hbc : (H.set c (.lst [])) b = some (.lst ((limbs B y).map V.int)) := (Sub.new hc).il hb
  simp only [x0, x1, x2, x3, x4, x5, x6, x7, x9, x10, x11, x12, x13, x14, x15, x16, x17, x18, x19, x20, x21, x22, x23, x27, x28, x29, x30, x31, x32, x33, x34, x35, x36, x37, x38, x39, x40, x41, x42, x43, x44, x49, x50, x51, x52, x53, forR_eq, forL_eq, forE_eq, idx_eq, x54, x55, x56, x57, x58, x59, x60, x61, x62, x63, x64, x65, x66, x67, x68, x69, x70, x71, x72, x73, x74, x75, x76, x77, x78, x79, x80, x81, x82, x83, x84, x85, x86, x87, x88, x89, x90, x91, x92, yz0, yz1, yz2, yz3, Option.some.injEq, exists_eq_left', exists_eq_left, exists_and_left, V.ref.injEq, V.int.injEq, V.fn.injEq, V.bool.injEq, Ob.lst.injEq, Ob.tup.injEq, decide_eq_true_eq, decide_eq_false_iff_not, Bool.not_eq_true', Bool.not_eq_false', Bool.not_true, Bool.not_false, List.length_map, yz4, yz5, yz6, yz7, yz8, yz9, yz10, yz11, true_and, and_true, reduceCtorEq, Bool.false_eq_true, Bool.true_eq_false, if_true, if_false, false_implies, true_implies, forall_const, and_self, false_and, and_false, or_false, false_or, implies_true, Nat.reduceAdd, Nat.reduceSub, ne_eq, not_true_eq_false, not_false_eq_true, Nat.zero_le, exists_eq', exists_eq, Int.toNat_natCast, AH.set_self, List.cons.injEq, hac, hbc, la', lb']
  obtain ⟨I, hI⟩ : ∃ I : Nat → Loc → AH → Prop, I = fun m l H' => ∃ cr fs z, l = [some (.ref a), some (.ref b), some (.int w), some (.ref c), some (.int cr), some (.int (B - 1)), z] ∧ Sub H H' ∧ IL H' c fs ∧ fs.length = m ∧ Lim B fs ∧ (0 ≤ cr ∧ cr ≤ 1) ∧
      val B fs + B ^ fs.length * cr = val B ((limbs B x).take m) + val B ((limbs B y).take m) := ⟨_, rfl⟩
  have fin : ∀ l H', I (limbs B x).length l H' → execsS Φ (.cons (.ifs (.cmp .gt (.var 4) (.int 0)) (.cons (.app (.var 3) (.var 4)) .nil) .nil) (.cons (.ret (.var 3)) .nil)) l H' K := fun l H' hI' => by
    rw [hI] at hI'
    obtain ⟨cr, fs, z, rfl, hs, hf, hm, hL, hcr, hv⟩ := hI'
    rw [List.take_of_length_le (Nat.le_refl _), List.take_of_length_le hxy, limbs_val hB x hx.1, limbs_val hB y hy.1] at hv
    have hf' : H' c = some (.lst (fs.map V.int)) := hf
    have hfl : fs.length ≤ lim := by exact o177 la' hm
    simp only [x0, x1, x2, x3, x4, x5, x6, x7, x9, x10, x11, x12, x13, x14, x15, x16, x17, x18, x19, x20, x21, x22, x23, x27, x28, x29, x30, x31, x32, x33, x34, x35, x36, x37, x38, x39, x40, x41, x42, x43, x44, x49, x50, x51, x52, x53, forR_eq, forL_eq, forE_eq, idx_eq, x54, x55, x56, x57, x58, x59, x60, x61, x62, x63, x64, x65, x66, x67, x68, x69, x70, x71, x72, x73, x74, x75, x76, x77, x78, x79, x80, x81, x82, x83, x84, x85, x86, x87, x88, x89, x90, x91, x92, yz0, yz1, yz2, yz3, Option.some.injEq, exists_eq_left', exists_eq_left, exists_and_left, V.ref.injEq, V.int.injEq, V.fn.injEq, V.bool.injEq, Ob.lst.injEq, Ob.tup.injEq, decide_eq_true_eq, decide_eq_false_iff_not, Bool.not_eq_true', Bool.not_eq_false', Bool.not_true, Bool.not_false, List.length_map, yz4, yz5, yz6, yz7, yz8, yz9, yz10, yz11, true_and, and_true, reduceCtorEq, Bool.false_eq_true, Bool.true_eq_false, if_true, if_false, false_implies, true_implies, forall_const, and_self, false_and, and_false, or_false, false_or, implies_true, Nat.reduceAdd, Nat.reduceSub, ne_eq, not_true_eq_false, not_false_eq_true, Nat.zero_le, exists_eq', exists_eq, Int.toNat_natCast, AH.set_self, List.cons.injEq, hf', hfl]
    refine ⟨fun h0 => h _ c _ hc (hs.set hc) ?_, fun h0 => h _ c _ hc hs ?_⟩
    · have := il_set (H := H') (c := c) (xs := fs ++ [cr])
      rw [fin_carry hB hL (by exact o178 hB hcr.2 h0) hv] at this
      rw [← fin_carry hB hL (by exact o178 hB hcr.2 h0) hv] at this ⊢
      simpa using this
    · rw [← fin_none hB hL (by exact o151 hcr.1 h0) hv ?_]
      · exact hf
      · by_cases hz : fs.length = 0
        · exact .inl (List.length_eq_zero_iff.mp hz)
        · exact .inr (len_ge hB hx.1 (by exact o179 hy.1) hm hz)
  refine forR_up (a := 0) (n := (limbs B y).length) rfl rfl (by exact o180) (by exact o158 lb) I (by rw [hI]; exact ⟨0, [], _, rfl, .new hc, il_set (xs := []), rfl, .nil, by exact o181, by simp [val]⟩) (fun m l H' _ hm hj => ?_) fun l H' hj => ?_
  · rw [hI] at hj
    obtain ⟨cr, fs, z, rfl, hs, hf, hfm, hL, hcr, hv⟩ := hj
    have ex := List.getElem?_eq_getElem (l := limbs B x) (i := m) (by exact o182 hxy hm)
    have ey := List.getElem?_eq_getElem (l := limbs B y) (i := m) hm
    have hf' : H' c = some (.lst (fs.map V.int)) := hf
    have hfl : fs.length ≤ lim := by exact o183 lb' hm hfm
    try simp only [x0, x1, x2, x3, x4, x5, x6, x7, x9, x10, x11, x12, x13, x14, x15, x16, x17, x18, x19, x20, x21, x22, x23, x27, x28, x29, x30, x31, x32, x33, x34, x35, x36, x37, x38, x39, x40, x41, x42, x43, x44, x49, x50, x51, x52, x53, forR_eq, forL_eq, forE_eq, idx_eq, x54, x55, x56, x57, x58, x59, x60, x61, x62, x63, x64, x65, x66, x67, x68, x69, x70, x71, x72, x73, x74, x75, x76, x77, x78, x79, x80, x81, x82, x83, x84, x85, x86, x87, x88, x89, x90, x91, x92, yz0, yz1, yz2, yz3, Option.some.injEq, exists_eq_left', exists_eq_left, exists_and_left, V.ref.injEq, V.int.injEq, V.fn.injEq, V.bool.injEq, Ob.lst.injEq, Ob.tup.injEq, decide_eq_true_eq, decide_eq_false_iff_not, Bool.not_eq_true', Bool.not_eq_false', Bool.not_true, Bool.not_false, List.length_map, yz4, yz5, yz6, yz7, yz8, yz9, yz10, yz11, true_and, and_true, reduceCtorEq, Bool.false_eq_true, Bool.true_eq_false, if_true, if_false, false_implies, true_implies, forall_const, and_self, false_and, and_false, or_false, false_or, implies_true, Nat.reduceAdd, Nat.reduceSub, ne_eq, not_true_eq_false, not_false_eq_true, Nat.zero_le, exists_eq', exists_eq, Int.toNat_natCast, AH.set_self, List.cons.injEq]
    refine idx_nat m (hs.il ha) la' rfl ex (idx_nat m (hs.il hb) lb' rfl ey ?_)
    simp only [x0, x1, x2, x3, x4, x5, x6, x7, x9, x10, x11, x12, x13, x14, x15, x16, x17, x18, x19, x20, x21, x22, x23, x27, x28, x29, x30, x31, x32, x33, x34, x35, x36, x37, x38, x39, x40, x41, x42, x43, x44, x49, x50, x51, x52, x53, forR_eq, forL_eq, forE_eq, idx_eq, x54, x55, x56, x57, x58, x59, x60, x61, x62, x63, x64, x65, x66, x67, x68, x69, x70, x71, x72, x73, x74, x75, x76, x77, x78, x79, x80, x81, x82, x83, x84, x85, x86, x87, x88, x89, x90, x91, x92, yz0, yz1, yz2, yz3, Option.some.injEq, exists_eq_left', exists_eq_left, exists_and_left, V.ref.injEq, V.int.injEq, V.fn.injEq, V.bool.injEq, Ob.lst.injEq, Ob.tup.injEq, decide_eq_true_eq, decide_eq_false_iff_not, Bool.not_eq_true', Bool.not_eq_false', Bool.not_true, Bool.not_false, List.length_map, yz4, yz5, yz6, yz7, yz8, yz9, yz10, yz11, true_and, and_true, reduceCtorEq, Bool.false_eq_true, Bool.true_eq_false, if_true, if_false, false_implies, true_implies, forall_const, and_self, false_and, and_false, or_false, false_or, implies_true, Nat.reduceAdd, Nat.reduceSub, ne_eq, not_true_eq_false, not_false_eq_true, Nat.zero_le, exists_eq', exists_eq, Int.toNat_natCast, AH.set_self, List.cons.injEq, hf', hfl, band_mask hw, hw.pow, hw.nn]
    have bx := wa.at ex
    have by' := wb.at ey
    rw [hI]
    generalize (limbs B x)[m] = dx at *
    generalize (limbs B y)[m] = dy at *
    refine ⟨(cr + (dx + dy)) / B, fs ++ [(cr + (dx + dy)) % B], _, rfl, hs.set hc, by simpa using il_set (H := H') (c := c) (xs := fs ++ [(cr + (dx + dy)) % B]), by simp [hfm], hL.append (.one (emod_lim (by exact o74 hB) _)), ⟨Int.ediv_nonneg (by exact o184 hcr.1 bx.1 by'.1) (by exact o76 hB), ?_⟩, ?_⟩
    · exact Int.le_of_lt_add_one (Int.ediv_lt_of_lt_mul (by exact o74 hB) (by exact o185 hcr.2 bx.2 by'.2))
    · rw [out_limb (by exact o74 hB) hv, val_next ex, val_next ey, hfm]
      grind
  · rw [hI] at hj
    obtain ⟨cr, fs, z, rfl, hs, hf, hfm, hL, hcr, hv⟩ := hj
    have hf' : H' c = some (.lst (fs.map V.int)) := hf
    have hfl : fs.length ≤ lim := by exact o177 lb' hfm
    have hac : H' a = some (.lst ((limbs B x).map V.int)) := hs.il ha
    have hbc : H' b = some (.lst ((limbs B y).map V.int)) := hs.il hb
    simp only [x0, x1, x2, x3, x4, x5, x6, x7, x9, x10, x11, x12, x13, x14, x15, x16, x17, x18, x19, x20, x21, x22, x23, x27, x28, x29, x30, x31, x32, x33, x34, x35, x36, x37, x38, x39, x40, x41, x42, x43, x44, x49, x50, x51, x52, x53, forR_eq, forL_eq, forE_eq, idx_eq, x54, x55, x56, x57, x58, x59, x60, x61, x62, x63, x64, x65, x66, x67, x68, x69, x70, x71, x72, x73, x74, x75, x76, x77, x78, x79, x80, x81, x82, x83, x84, x85, x86, x87, x88, x89, x90, x91, x92, yz0, yz1, yz2, yz3, Option.some.injEq, exists_eq_left', exists_eq_left, exists_and_left, V.ref.injEq, V.int.injEq, V.fn.injEq, V.bool.injEq, Ob.lst.injEq, Ob.tup.injEq, decide_eq_true_eq, decide_eq_false_iff_not, Bool.not_eq_true', Bool.not_eq_false', Bool.not_true, Bool.not_false, List.length_map, yz4, yz5, yz6, yz7, yz8, yz9, yz10, yz11, true_and, and_true, reduceCtorEq, Bool.false_eq_true, Bool.true_eq_false, if_true, if_false, false_implies, true_implies, forall_const, and_self, false_and, and_false, or_false, false_or, implies_true, Nat.reduceAdd, Nat.reduceSub, ne_eq, not_true_eq_false, not_false_eq_true, Nat.zero_le, exists_eq', exists_eq, Int.toNat_natCast, AH.set_self, List.cons.injEq, hac, hbc, la', lb']
    refine forR_up (a := (limbs B y).length) (n := (limbs B x).length) rfl rfl (by exact o186 hxy) (by exact o158 la) I (by rw [hI]; exact ⟨cr, fs, z, rfl, hs, hf, hfm, hL, hcr, hv⟩) (fun m l H' hm0 hm hj => ?_) fun l H' hj => ?_
    · rw [hI] at hj
      obtain ⟨cr, fs, z, rfl, hs, hf, hfm, hL, hcr, hv⟩ := hj
      have ex := List.getElem?_eq_getElem (l := limbs B x) (i := m) (by exact o187 hm)
      have hf' : H' c = some (.lst (fs.map V.int)) := hf
      have hfl : fs.length ≤ lim := by exact o183 la' hm hfm
      try simp only [x0, x1, x2, x3, x4, x5, x6, x7, x9, x10, x11, x12, x13, x14, x15, x16, x17, x18, x19, x20, x21, x22, x23, x27, x28, x29, x30, x31, x32, x33, x34, x35, x36, x37, x38, x39, x40, x41, x42, x43, x44, x49, x50, x51, x52, x53, forR_eq, forL_eq, forE_eq, idx_eq, x54, x55, x56, x57, x58, x59, x60, x61, x62, x63, x64, x65, x66, x67, x68, x69, x70, x71, x72, x73, x74, x75, x76, x77, x78, x79, x80, x81, x82, x83, x84, x85, x86, x87, x88, x89, x90, x91, x92, yz0, yz1, yz2, yz3, Option.some.injEq, exists_eq_left', exists_eq_left, exists_and_left, V.ref.injEq, V.int.injEq, V.fn.injEq, V.bool.injEq, Ob.lst.injEq, Ob.tup.injEq, decide_eq_true_eq, decide_eq_false_iff_not, Bool.not_eq_true', Bool.not_eq_false', Bool.not_true, Bool.not_false, List.length_map, yz4, yz5, yz6, yz7, yz8, yz9, yz10, yz11, true_and, and_true, reduceCtorEq, Bool.false_eq_true, Bool.true_eq_false, if_true, if_false, false_implies, true_implies, forall_const, and_self, false_and, and_false, or_false, false_or, implies_true, Nat.reduceAdd, Nat.reduceSub, ne_eq, not_true_eq_false, not_false_eq_true, Nat.zero_le, exists_eq', exists_eq, Int.toNat_natCast, AH.set_self, List.cons.injEq]
      refine idx_nat m (hs.il ha) la' rfl ex ?_
      simp only [x0, x1, x2, x3, x4, x5, x6, x7, x9, x10, x11, x12, x13, x14, x15, x16, x17, x18, x19, x20, x21, x22, x23, x27, x28, x29, x30, x31, x32, x33, x34, x35, x36, x37, x38, x39, x40, x41, x42, x43, x44, x49, x50, x51, x52, x53, forR_eq, forL_eq, forE_eq, idx_eq, x54, x55, x56, x57, x58, x59, x60, x61, x62, x63, x64, x65, x66, x67, x68, x69, x70, x71, x72, x73, x74, x75, x76, x77, x78, x79, x80, x81, x82, x83, x84, x85, x86, x87, x88, x89, x90, x91, x92, yz0, yz1, yz2, yz3, Option.some.injEq, exists_eq_left', exists_eq_left, exists_and_left, V.ref.injEq, V.int.injEq, V.fn.injEq, V.bool.injEq, Ob.lst.injEq, Ob.tup.injEq, decide_eq_true_eq, decide_eq_false_iff_not, Bool.not_eq_true', Bool.not_eq_false', Bool.not_true, Bool.not_false, List.length_map, yz4, yz5, yz6, yz7, yz8, yz9, yz10, yz11, true_and, and_true, reduceCtorEq, Bool.false_eq_true, Bool.true_eq_false, if_true, if_false, false_implies, true_implies, forall_const, and_self, false_and, and_false, or_false, false_or, implies_true, Nat.reduceAdd, Nat.reduceSub, ne_eq, not_true_eq_false, not_false_eq_true, Nat.zero_le, exists_eq', exists_eq, Int.toNat_natCast, AH.set_self, List.cons.injEq, hf', hfl, band_mask hw, hw.pow, hw.nn]
      have bx := wa.at ex
      rw [hI]
      generalize (limbs B x)[m] = dx at *
      refine ⟨(cr + dx) / B, fs ++ [(cr + dx) % B], _, rfl, hs.set hc, by simpa using il_set (H := H') (c := c) (xs := fs ++ [(cr + dx) % B]), by simp [hfm], hL.append (.one (emod_lim (by exact o74 hB) _)), ⟨Int.ediv_nonneg (by exact o68 hcr.1 bx.1) (by exact o76 hB), ?_⟩, ?_⟩
      · exact Int.le_of_lt_add_one (Int.ediv_lt_of_lt_mul (by exact o74 hB) (by exact o188 hB hcr.2 bx.2))
      · rw [out_limb (by exact o74 hB) hv, val_next ex, List.take_of_length_le (l := limbs B y) (i := m) (by exact o186 hm0), List.take_of_length_le (l := limbs B y) (i := m + 1) (by exact o189 hm0), hfm]
        grind
    · have q := fin _ _ hj
      try simp only [x0, x1, x2, x3, x4, x5, x6, x7, x9, x10, x11, x12, x13, x14, x15, x16, x17, x18, x19, x20, x21, x22, x23, x27, x28, x29, x30, x31, x32, x33, x34, x35, x36, x37, x38, x39, x40, x41, x42, x43, x44, x49, x50, x51, x52, x53, forR_eq, forL_eq, forE_eq, idx_eq, x54, x55, x56, x57, x58, x59, x60, x61, x62, x63, x64, x65, x66, x67, x68, x69, x70, x71, x72, x73, x74, x75, x76, x77, x78, x79, x80, x81, x82, x83, x84, x85, x86, x87, x88, x89, x90, x91, x92, yz0, yz1, yz2, yz3, Option.some.injEq, exists_eq_left', exists_eq_left, exists_and_left, V.ref.injEq, V.int.injEq, V.fn.injEq, V.bool.injEq, Ob.lst.injEq, Ob.tup.injEq, decide_eq_true_eq, decide_eq_false_iff_not, Bool.not_eq_true', Bool.not_eq_false', Bool.not_true, Bool.not_false, List.length_map, yz4, yz5, yz6, yz7, yz8, yz9, yz10, yz11, true_and, and_true, reduceCtorEq, Bool.false_eq_true, Bool.true_eq_false, if_true, if_false, false_implies, true_implies, forall_const, and_self, false_and, and_false, or_false, false_or, implies_true, Nat.reduceAdd, Nat.reduceSub, ne_eq, not_true_eq_false, not_false_eq_true, Nat.zero_le, exists_eq', exists_eq, Int.toNat_natCast, AH.set_self, List.cons.injEq] at q ⊢
      exact q
theorem add_ok {n w : Nat} (hn : 1 ≤ n) (hw : WOk w B) {H : AH} {a b : Nat} {x y : Int} {Q : PQ} (ha : IL H a (limbs B x)) (hb : IL H b (limbs B y)) (hx : 0 ≤ x ∧ x < 2 ^ 64) (hy : 0 ≤ y ∧ y < 2 ^ 64) (h : Ret H (limbs B (x + y)) Q) :
    callS theDefs n 3 [.ref a, .ref b, .int w] H Q := by
  refine call_of hn rfl rfl ?_
  have ha' : H a = some (.lst ((limbs B x).map V.int)) := ha
  have hb' : H b = some (.lst ((limbs B y).map V.int)) := hb
  have la := len_lim hw.two hx.1 hx.2
  have lb := len_lim hw.two hy.1 hy.2
  have la' : (limbs B x).length ≤ lim := le_lim (by exact o158 la)
  have lb' : (limbs B y).length ≤ lim := le_lim (by exact o158 lb)
  show execsS _ (.cons (.ifs (.cmp .lt (.len (.var 0)) (.len (.var 1))) (.cons (.asgTT [0, 1] (.cons (.var 1) (.cons (.var 0) .nil))) .nil) .nil) (tl f_add.body)) [some (.ref a), some (.ref b), some (.int w), none, none, none, none] _ _
  simp only [x0, x1, x2, x3, x4, x5, x6, x7, x9, x10, x11, x12, x13, x14, x15, x16, x17, x18, x19, x20, x21, x22, x23, x27, x28, x29, x30, x31, x32, x33, x34, x35, x36, x37, x38, x39, x40, x41, x42, x43, x44, x49, x50, x51, x52, x53, forR_eq, forL_eq, forE_eq, idx_eq, x54, x55, x56, x57, x58, x59, x60, x61, x62, x63, x64, x65, x66, x67, x68, x69, x70, x71, x72, x73, x74, x75, x76, x77, x78, x79, x80, x81, x82, x83, x84, x85, x86, x87, x88, x89, x90, x91, x92, yz0, yz1, yz2, yz3, Option.some.injEq, exists_eq_left', exists_eq_left, exists_and_left, V.ref.injEq, V.int.injEq, V.fn.injEq, V.bool.injEq, Ob.lst.injEq, Ob.tup.injEq, decide_eq_true_eq, decide_eq_false_iff_not, Bool.not_eq_true', Bool.not_eq_false', Bool.not_true, Bool.not_false, List.length_map, yz4, yz5, yz6, yz7, yz8, yz9, yz10, yz11, true_and, and_true, reduceCtorEq, Bool.false_eq_true, Bool.true_eq_false, if_true, if_false, false_implies, true_implies, forall_const, and_self, false_and, and_false, or_false, false_or, implies_true, Nat.reduceAdd, Nat.reduceSub, ne_eq, not_true_eq_false, not_false_eq_true, Nat.zero_le, exists_eq', exists_eq, Int.toNat_natCast, AH.set_self, List.cons.injEq, ha', hb', la', lb']
  refine ⟨fun hl => ?_, fun hl => ?_⟩
  · exact add_tail hw hb ha hy hx (by exact o190 hl) fun l c H' h1 h2 h3 => h c H' h1 h2 (by rw [Int.add_comm]; exact h3)
  · exact add_tail hw ha hb hx hy (by exact o191 hl) fun l c H' h1 h2 h3 => h c H' h1 h2 h3
end Mine
end
section
open PySem PySem.Calls PySem.W PyProof.Rows
set_option maxRecDepth 100000
namespace Mine
variable {B : Int} {Φ : Phi}
theorem mul_bound {a b : Int} (ha : 0 ≤ a ∧ a < B) (hb : 0 ≤ b ∧ b < B) : 0 ≤ a * b ∧ a * b ≤ B * B - 2 * B + 1 := by
  refine ⟨Int.mul_nonneg ha.1 hb.1, ?_⟩
  have := Int.mul_le_mul (show a ≤ B - 1 by exact o69 ha.2) (show b ≤ B - 1 by exact o69 hb.2) hb.1 (show 0 ≤ B - 1 by exact o192 ha.1 ha.2)
  have e : (B - 1) * (B - 1) = B * B - 2 * B + 1 := by grind
  exact o193 this e
theorem ediv_lim (hB : 0 < B) {x : Int} (h : 0 ≤ x) (h' : x < B * B) : 0 ≤ x / B ∧ x / B < B := ⟨Int.ediv_nonneg h (by exact o96 hB), Int.ediv_lt_of_lt_mul hB h'⟩
theorem WOk.sm {w : Nat} (h : WOk w B) {x : Int} (hx : 0 ≤ x ∧ x < B) : x.natAbs < 2 ^ 64 := by have := h.le; exact o194 hx.1 hx.2 this.2
theorem mul_limb_ok {n w : Nat} (hn : 1 ≤ n) (hw : WOk w B) {H : AH} {a : Nat} {x d : Int} {Q : PQ} (ha : IL H a (limbs B x)) (hx : 0 ≤ x ∧ x < 2 ^ 64) (hd : 0 ≤ d ∧ d < B) (h : Ret H (limbs B (x * d)) Q) :
    callS theDefs n 4 [.ref a, .int d, .int w] H Q := by
  refine call_of hn rfl rfl ?_
  have la := len_lim hw.two hx.1 hx.2
  have la' : (limbs B x).length ≤ lim := le_lim (by exact o158 la)
  have hB := hw.two
  have wa := limbs_lim hB x hx.1
  simp only [x0, x1, x2, x3, x4, x5, x6, x7, x9, x10, x11, x12, x13, x14, x15, x16, x17, x18, x19, x20, x21, x22, x23, x27, x28, x29, x30, x31, x32, x33, x34, x35, x36, x37, x38, x39, x40, x41, x42, x43, x44, x49, x50, x51, x52, x53, forR_eq, forL_eq, forE_eq, idx_eq, x54, x55, x56, x57, x58, x59, x60, x61, x62, x63, x64, x65, x66, x67, x68, x69, x70, x71, x72, x73, x74, x75, x76, x77, x78, x79, x80, x81, x82, x83, x84, x85, x86, x87, x88, x89, x90, x91, x92, yz0, yz1, yz2, yz3, Option.some.injEq, exists_eq_left', exists_eq_left, exists_and_left, V.ref.injEq, V.int.injEq, V.fn.injEq, V.bool.injEq, Ob.lst.injEq, Ob.tup.injEq, decide_eq_true_eq, decide_eq_false_iff_not, Bool.not_eq_true', Bool.not_eq_false', Bool.not_true, Bool.not_false, List.length_map, yz4, yz5, yz6, yz7, yz8, yz9, yz10, yz11, true_and, and_true, reduceCtorEq, Bool.false_eq_true, Bool.true_eq_false, if_true, if_false, false_implies, true_implies, forall_const, and_self, false_and, and_false, or_false, false_or, implies_true, Nat.reduceAdd, Nat.reduceSub, ne_eq, not_true_eq_false, not_false_eq_true, Nat.zero_le, exists_eq', exists_eq, Int.toNat_natCast, AH.set_self, List.cons.injEq, f_mul_limb, hw.pow, hw.nn, hw.k, one64, Int.one_mul]
  refine ⟨fun h0 c hc => ?_, fun h0 c hc => ?_⟩
  · subst h0
    rw [Int.mul_zero, limbs_zero] at h
    exact h c _ hc (.new hc) (il_set (xs := []))
  have hac : (H.set c (.lst [])) a = some (.lst ((limbs B x).map V.int)) := (Sub.new hc).il ha
  refine ⟨(limbs B x).map V.int, by simpa using la', ?_⟩
  obtain ⟨I, hI⟩ : ∃ I : Nat → Loc → AH → Prop, I = fun m l H' => ∃ cr fs z, l = [some (.ref a), some (.int d), some (.int w), some (.ref c), some (.int cr), some (.int (B - 1)), z] ∧ Sub H H' ∧ IL H' c fs ∧ fs.length = m ∧ Lim B fs ∧ (0 ≤ cr ∧ cr < B) ∧
      val B fs + B ^ fs.length * cr = val B ((limbs B x).take m) * d ∧ m ≤ (limbs B x).length := ⟨_, rfl⟩
  refine forL_in I (by rw [hI]; exact ⟨0, [], _, rfl, .new hc, il_set (xs := []), rfl, .nil, by exact o195 hB, by simp [val], by exact o180⟩) (fun m l H' hj => ?_) (fun m l H' e he hj => ?_) fun l H' hj => ?_
  · rw [hI] at hj
    obtain ⟨cr, fs, z, rfl, hs, hf, hfm, hL, hcr, hv, hm⟩ := hj
    exact hs.il ha
  · rw [hI] at hj
    obtain ⟨cr, fs, z, rfl, hs, hf, hfm, hL, hcr, hv, hm⟩ := hj
    have hf' : H' c = some (.lst (fs.map V.int)) := hf
    have hfl : fs.length ≤ lim := by exact o196 la' hfm hm
    have be := wa.at he
    simp only [x0, x1, x2, x3, x4, x5, x6, x7, x9, x10, x11, x12, x13, x14, x15, x16, x17, x18, x19, x20, x21, x22, x23, x27, x28, x29, x30, x31, x32, x33, x34, x35, x36, x37, x38, x39, x40, x41, x42, x43, x44, x49, x50, x51, x52, x53, forR_eq, forL_eq, forE_eq, idx_eq, x54, x55, x56, x57, x58, x59, x60, x61, x62, x63, x64, x65, x66, x67, x68, x69, x70, x71, x72, x73, x74, x75, x76, x77, x78, x79, x80, x81, x82, x83, x84, x85, x86, x87, x88, x89, x90, x91, x92, yz0, yz1, yz2, yz3, Option.some.injEq, exists_eq_left', exists_eq_left, exists_and_left, V.ref.injEq, V.int.injEq, V.fn.injEq, V.bool.injEq, Ob.lst.injEq, Ob.tup.injEq, decide_eq_true_eq, decide_eq_false_iff_not, Bool.not_eq_true', Bool.not_eq_false', Bool.not_true, Bool.not_false, List.length_map, yz4, yz5, yz6, yz7, yz8, yz9, yz10, yz11, true_and, and_true, reduceCtorEq, Bool.false_eq_true, Bool.true_eq_false, if_true, if_false, false_implies, true_implies, forall_const, and_self, false_and, and_false, or_false, false_or, implies_true, Nat.reduceAdd, Nat.reduceSub, ne_eq, not_true_eq_false, not_false_eq_true, Nat.zero_le, exists_eq', exists_eq, Int.toNat_natCast, AH.set_self, List.cons.injEq, hf', hfl, band_mask hw, hw.pow, hw.nn, hw.sm be, hw.sm hd]
    have mb := mul_bound be hd
    have eb := ediv_lim (B := B) (x := cr + e * d) (by exact o74 hB) (by exact o68 hcr.1 mb.1) (by exact o197 hcr.1 hcr.2 mb.2)
    rw [hI]
    refine ⟨(cr + e * d) / B, fs ++ [(cr + e * d) % B], _, rfl, hs.set hc, by simpa using il_set (H := H') (c := c) (xs := fs ++ [(cr + e * d) % B]), by simp [hfm], hL.append (.one (emod_lim (by exact o74 hB) _)), eb, ?_, ?_⟩
    · rw [out_limb (by exact o74 hB) hv, val_next he, hfm]
      grind
    · have := (List.getElem?_eq_some_iff.mp he).1; exact o198 this
  · rw [hI] at hj
    obtain ⟨cr, fs, z, rfl, hs, hf, hfm, hL, hcr, hv, hm⟩ := hj
    rw [List.take_of_length_le (Nat.le_refl _), limbs_val hB x hx.1] at hv
    have hf' : H' c = some (.lst (fs.map V.int)) := hf
    have hfl : fs.length ≤ lim := by exact o177 la' hfm
    simp only [x0, x1, x2, x3, x4, x5, x6, x7, x9, x10, x11, x12, x13, x14, x15, x16, x17, x18, x19, x20, x21, x22, x23, x27, x28, x29, x30, x31, x32, x33, x34, x35, x36, x37, x38, x39, x40, x41, x42, x43, x44, x49, x50, x51, x52, x53, forR_eq, forL_eq, forE_eq, idx_eq, x54, x55, x56, x57, x58, x59, x60, x61, x62, x63, x64, x65, x66, x67, x68, x69, x70, x71, x72, x73, x74, x75, x76, x77, x78, x79, x80, x81, x82, x83, x84, x85, x86, x87, x88, x89, x90, x91, x92, yz0, yz1, yz2, yz3, Option.some.injEq, exists_eq_left', exists_eq_left, exists_and_left, V.ref.injEq, V.int.injEq, V.fn.injEq, V.bool.injEq, Ob.lst.injEq, Ob.tup.injEq, decide_eq_true_eq, decide_eq_false_iff_not, Bool.not_eq_true', Bool.not_eq_false', Bool.not_true, Bool.not_false, List.length_map, yz4, yz5, yz6, yz7, yz8, yz9, yz10, yz11, true_and, and_true, reduceCtorEq, Bool.false_eq_true, Bool.true_eq_false, if_true, if_false, false_implies, true_implies, forall_const, and_self, false_and, and_false, or_false, false_or, implies_true, Nat.reduceAdd, Nat.reduceSub, ne_eq, not_true_eq_false, not_false_eq_true, Nat.zero_le, exists_eq', exists_eq, Int.toNat_natCast, AH.set_self, List.cons.injEq, hf', hfl]
    refine ⟨fun h0 => h c _ hc (hs.set hc) ?_, fun h0 => h c _ hc hs ?_⟩
    · rw [← fin_carry hB hL (by exact o199 hcr.2 h0) hv]
      simpa using il_set (H := H') (c := c) (xs := fs ++ [cr])
    · rw [← fin_none hB hL (by exact o151 hcr.1 h0) hv ?_]
      · exact hf
      · by_cases hz : fs.length = 0
        · exact .inl (List.length_eq_zero_iff.mp hz)
        · refine .inr (len_ge hB hx.1 ?_ hfm hz)
          have := Int.mul_le_mul_of_nonneg_left (show 1 ≤ d by exact o200 hd.1 (by assumption)) hx.1
          exact o147 this
noncomputable def RetP (H : AH) (xs : List Int) (r : Int) (Q : PQ) : Prop := ∀ c c' H', H c = none → H c' = none → Sub H H' → H' c = some (.tup [.ref c', .int r]) → IL H' c' xs → Q (.ref c) H'
theorem WOk.bor {w : Nat} (hw : WOk w B) {r d : Int} (hr : 0 ≤ r) (hd : 0 ≤ d ∧ d < B) : Builtin.bitOr (r * B) d = r * B + d := by
  have := bor_add (k := w) hr (y := d) (by rw [← hw.eq]; exact hd)
  rwa [← hw.eq] at this
theorem div_uniq {x y q r : Int} (h : x = y * q + r) (hr : 0 ≤ r ∧ r < y) : x / y = q ∧ x % y = r := by
  have e : x = r + y * q := by exact o201 h
  rw [e, Int.add_mul_ediv_left _ _ (by exact o202 hr.1 hr.2), Int.add_mul_emod_self_left, Int.ediv_eq_zero_of_lt hr.1 hr.2, Int.emod_eq_of_lt hr.1 hr.2]
  exact o203
theorem divrem_limb_ok {n w : Nat} (hn : 2 ≤ n) (hw : WOk w B) {H : AH} {a : Nat} {x d : Int} {Q : PQ} (ha : IL H a (limbs B x)) (hx : 0 ≤ x ∧ x < 2 ^ 64) (hd : 0 < d ∧ d < B) (h : RetP H (limbs B (x / d)) (x % d) Q) :
    callS theDefs n 5 [.ref a, .int d, .int w] H Q := by
  refine call_of (by exact o204 hn) rfl rfl ?_
  have ha' : H a = some (.lst ((limbs B x).map V.int)) := ha
  have la := len_lim hw.two hx.1 hx.2
  have la' : (limbs B x).length ≤ lim := le_lim (by exact o158 la)
  have hB := hw.two
  have hBle := hw.le
  have wa := limbs_lim hB x hx.1
  have hd64 : d < 2 ^ 64 := by exact o205 hd.2 hBle.2
  have z1 : -(lim : Int) ≤ ((limbs B x).length : Int) := by exact o206
  have z2 : ((limbs B x).length : Int) ≤ (lim : Int) := by exact o207 la'
  simp only [x0, x1, x2, x3, x4, x5, x6, x7, x9, x10, x11, x12, x13, x14, x15, x16, x17, x18, x19, x20, x21, x22, x23, x27, x28, x29, x30, x31, x32, x33, x34, x35, x36, x37, x38, x39, x40, x41, x42, x43, x44, x49, x50, x51, x52, x53, forR_eq, forL_eq, forE_eq, idx_eq, x54, x55, x56, x57, x58, x59, x60, x61, x62, x63, x64, x65, x66, x67, x68, x69, x70, x71, x72, x73, x74, x75, x76, x77, x78, x79, x80, x81, x82, x83, x84, x85, x86, x87, x88, x89, x90, x91, x92, yz0, yz1, yz2, yz3, Option.some.injEq, exists_eq_left', exists_eq_left, exists_and_left, V.ref.injEq, V.int.injEq, V.fn.injEq, V.bool.injEq, Ob.lst.injEq, Ob.tup.injEq, decide_eq_true_eq, decide_eq_false_iff_not, Bool.not_eq_true', Bool.not_eq_false', Bool.not_true, Bool.not_false, List.length_map, yz4, yz5, yz6, yz7, yz8, yz9, yz10, yz11, true_and, and_true, reduceCtorEq, Bool.false_eq_true, Bool.true_eq_false, if_true, if_false, false_implies, true_implies, forall_const, and_self, false_and, and_false, or_false, false_or, implies_true, Nat.reduceAdd, Nat.reduceSub, ne_eq, not_true_eq_false, not_false_eq_true, Nat.zero_le, exists_eq', exists_eq, Int.toNat_natCast, AH.set_self, List.cons.injEq, f_divrem_limb, hw.pow, hw.nn, hw.k, one64, Int.one_mul]
  refine ⟨fun h0 => by exact o208 hd.1 h0, fun _ => ⟨le_lim (by exact o209), fun c₁ hc₁ => ?_⟩⟩
  have s₁ := Sub.new (ob := .lst [V.int 0]) hc₁
  have ha₁ : (H.set c₁ (.lst [V.int 0])) a = some (.lst ((limbs B x).map V.int)) := s₁.il ha
  simp only [x0, x1, x2, x3, x4, x5, x6, x7, x9, x10, x11, x12, x13, x14, x15, x16, x17, x18, x19, x20, x21, x22, x23, x27, x28, x29, x30, x31, x32, x33, x34, x35, x36, x37, x38, x39, x40, x41, x42, x43, x44, x49, x50, x51, x52, x53, forR_eq, forL_eq, forE_eq, idx_eq, x54, x55, x56, x57, x58, x59, x60, x61, x62, x63, x64, x65, x66, x67, x68, x69, x70, x71, x72, x73, x74, x75, x76, x77, x78, x79, x80, x81, x82, x83, x84, x85, x86, x87, x88, x89, x90, x91, x92, yz0, yz1, yz2, yz3, Option.some.injEq, exists_eq_left', exists_eq_left, exists_and_left, V.ref.injEq, V.int.injEq, V.fn.injEq, V.bool.injEq, Ob.lst.injEq, Ob.tup.injEq, decide_eq_true_eq, decide_eq_false_iff_not, Bool.not_eq_true', Bool.not_eq_false', Bool.not_true, Bool.not_false, List.length_map, yz4, yz5, yz6, yz7, yz8, yz9, yz10, yz11, true_and, and_true, reduceCtorEq, Bool.false_eq_true, Bool.true_eq_false, if_true, if_false, false_implies, true_implies, forall_const, and_self, false_and, and_false, or_false, false_or, implies_true, Nat.reduceAdd, Nat.reduceSub, ne_eq, not_true_eq_false, not_false_eq_true, Nat.zero_le, exists_eq', exists_eq, Int.toNat_natCast, AH.set_self, List.cons.injEq, ha₁, la', z1, z2]
  intro c hc₂
  have hc := s₁.none hc₂
  have s₂ := s₁.set (c := c) (ob := .lst (List.replicate (limbs B x).length (V.int 0))) hc
  generalize hH₂ : (H.set c₁ (.lst [V.int 0])).set c (.lst (List.replicate (limbs B x).length (V.int 0))) = H₂ at s₂ ⊢
  have hf₂ : IL H₂ c (List.replicate (limbs B x).length 0) := by rw [← hH₂]; unfold IL; rw [AH.set_self, List.map_replicate]
  have ha₂ : H₂ a = some (.lst ((limbs B x).map V.int)) := s₂.il ha
  simp only [x0, x1, x2, x3, x4, x5, x6, x7, x9, x10, x11, x12, x13, x14, x15, x16, x17, x18, x19, x20, x21, x22, x23, x27, x28, x29, x30, x31, x32, x33, x34, x35, x36, x37, x38, x39, x40, x41, x42, x43, x44, x49, x50, x51, x52, x53, forR_eq, forL_eq, forE_eq, idx_eq, x54, x55, x56, x57, x58, x59, x60, x61, x62, x63, x64, x65, x66, x67, x68, x69, x70, x71, x72, x73, x74, x75, x76, x77, x78, x79, x80, x81, x82, x83, x84, x85, x86, x87, x88, x89, x90, x91, x92, yz0, yz1, yz2, yz3, Option.some.injEq, exists_eq_left', exists_eq_left, exists_and_left, V.ref.injEq, V.int.injEq, V.fn.injEq, V.bool.injEq, Ob.lst.injEq, Ob.tup.injEq, decide_eq_true_eq, decide_eq_false_iff_not, Bool.not_eq_true', Bool.not_eq_false', Bool.not_true, Bool.not_false, List.length_map, yz4, yz5, yz6, yz7, yz8, yz9, yz10, yz11, true_and, and_true, reduceCtorEq, Bool.false_eq_true, Bool.true_eq_false, if_true, if_false, false_implies, true_implies, forall_const, and_self, false_and, and_false, or_false, false_or, implies_true, Nat.reduceAdd, Nat.reduceSub, ne_eq, not_true_eq_false, not_false_eq_true, Nat.zero_le, exists_eq', exists_eq, Int.toNat_natCast, AH.set_self, List.cons.injEq, ha₂, la']
  obtain ⟨J, hJ⟩ : ∃ J : Nat → Loc → AH → Prop, J = fun m l H' => ∃ r fs z, l = [some (.ref a), some (.int d), some (.int w), some (.ref c), some (.int r), z] ∧ Sub H H' ∧ IL H' c fs ∧ fs.length = (limbs B x).length ∧ Lim B fs ∧ (0 ≤ r ∧ r < d) ∧
      val B ((limbs B x).drop m) = d * val B (fs.drop m) + r := ⟨_, rfl⟩
  refine forR_down (n := (limbs B x).length) rfl (by exact o158 la) J (by rw [hJ]; exact ⟨0, _, _, rfl, s₂, hf₂, by simp, .zeros (by exact o210 hBle.1) _, by exact o73 hd.1, by rw [List.drop_eq_nil_of_le (Nat.le_refl _), List.drop_eq_nil_of_le (by simp)]; simp [val]⟩) (fun m l H' hm hj => ?_) fun l H' hj => ?_
  · rw [hJ] at hj
    obtain ⟨r, fs, z, rfl, hs, hf, hfl, hL, hr, hv⟩ := hj
    have hf' : H' c = some (.lst (fs.map V.int)) := hf
    have hfl' : fs.length ≤ lim := by exact o177 la' hfl
    have ex := List.getElem?_eq_getElem (l := limbs B x) (i := m) hm
    have bx := wa.at ex
    have r64 : r.natAbs < 2 ^ 64 := by exact o211 hd.2 hBle.2 hr.1 hr.2
    simp only [x0, x1, x2, x3, x4, x5, x6, x7, x9, x10, x11, x12, x13, x14, x15, x16, x17, x18, x19, x20, x21, x22, x23, x27, x28, x29, x30, x31, x32, x33, x34, x35, x36, x37, x38, x39, x40, x41, x42, x43, x44, x49, x50, x51, x52, x53, forR_eq, forL_eq, forE_eq, idx_eq, x54, x55, x56, x57, x58, x59, x60, x61, x62, x63, x64, x65, x66, x67, x68, x69, x70, x71, x72, x73, x74, x75, x76, x77, x78, x79, x80, x81, x82, x83, x84, x85, x86, x87, x88, x89, x90, x91, x92, yz0, yz1, yz2, yz3, Option.some.injEq, exists_eq_left', exists_eq_left, exists_and_left, V.ref.injEq, V.int.injEq, V.fn.injEq, V.bool.injEq, Ob.lst.injEq, Ob.tup.injEq, decide_eq_true_eq, decide_eq_false_iff_not, Bool.not_eq_true', Bool.not_eq_false', Bool.not_true, Bool.not_false, List.length_map, yz4, yz5, yz6, yz7, yz8, yz9, yz10, yz11, true_and, and_true, reduceCtorEq, Bool.false_eq_true, Bool.true_eq_false, if_true, if_false, false_implies, true_implies, forall_const, and_self, false_and, and_false, or_false, false_or, implies_true, Nat.reduceAdd, Nat.reduceSub, ne_eq, not_true_eq_false, not_false_eq_true, Nat.zero_le, exists_eq', exists_eq, Int.toNat_natCast, AH.set_self, List.cons.injEq, hw.pow, hw.nn, hw.k, r64]
    refine idx_nat m (hs.il ha) la' rfl ex ?_
    have m1 : (0 : Int) ≤ (m : Int) := by exact o143
    have m2 : (m : Int) < (fs.length : Int) := by exact o212 hm hfl
    simp only [x0, x1, x2, x3, x4, x5, x6, x7, x9, x10, x11, x12, x13, x14, x15, x16, x17, x18, x19, x20, x21, x22, x23, x27, x28, x29, x30, x31, x32, x33, x34, x35, x36, x37, x38, x39, x40, x41, x42, x43, x44, x49, x50, x51, x52, x53, forR_eq, forL_eq, forE_eq, idx_eq, x54, x55, x56, x57, x58, x59, x60, x61, x62, x63, x64, x65, x66, x67, x68, x69, x70, x71, x72, x73, x74, x75, x76, x77, x78, x79, x80, x81, x82, x83, x84, x85, x86, x87, x88, x89, x90, x91, x92, yz0, yz1, yz2, yz3, Option.some.injEq, exists_eq_left', exists_eq_left, exists_and_left, V.ref.injEq, V.int.injEq, V.fn.injEq, V.bool.injEq, Ob.lst.injEq, Ob.tup.injEq, decide_eq_true_eq, decide_eq_false_iff_not, Bool.not_eq_true', Bool.not_eq_false', Bool.not_true, Bool.not_false, List.length_map, yz4, yz5, yz6, yz7, yz8, yz9, yz10, yz11, true_and, and_true, reduceCtorEq, Bool.false_eq_true, Bool.true_eq_false, if_true, if_false, false_implies, true_implies, forall_const, and_self, false_and, and_false, or_false, false_or, implies_true, Nat.reduceAdd, Nat.reduceSub, ne_eq, not_true_eq_false, not_false_eq_true, Nat.zero_le, exists_eq', exists_eq, Int.toNat_natCast, AH.set_self, List.cons.injEq, hf', hfl', hw.bor hr.1 bx, hd.1, hd64, m1, m2]
    have hdr : (limbs B x).drop m = (limbs B x)[m] :: (limbs B x).drop (m + 1) := List.drop_eq_getElem_cons hm
    generalize (limbs B x)[m] = e at *
    have hdv := Int.emod_add_mul_ediv (r * B + e) d
    have hq0 : 0 ≤ r * B := Int.mul_nonneg hr.1 (by exact o213 hBle.1)
    have hq1 : r * B ≤ (d - 1) * B := Int.mul_le_mul_of_nonneg_right (by exact o69 hr.2) (by exact o213 hBle.1)
    have hq2 : (d - 1) * B = B * d - B := by grind
    have hq : 0 ≤ (r * B + e) / d ∧ (r * B + e) / d < B := ⟨Int.ediv_nonneg (by exact o214 bx.1 hq0) (by exact o96 hd.1), Int.ediv_lt_of_lt_mul hd.1 (by exact o215 bx.2 hq1 hq2)⟩
    have hrm := emod_lim hd.1 (r * B + e)
    generalize (r * B + e) / d = q at *
    generalize (r * B + e) % d = r' at *
    rw [hJ]
    refine ⟨r', fs.set m q, _, rfl, hs.set hc, by simpa [List.map_set] using il_set (H := H') (c := c) (xs := fs.set m q), by simpa using hfl, hL.set hq m, hrm, ?_⟩
    have hds : (fs.set m q).drop m = q :: fs.drop (m + 1) := by
      rw [List.drop_eq_getElem_cons (by simp; exact o216 hm hfl)]
      simp
      rw [List.drop_set_of_lt (by exact o217)]
    rw [hdr, hds, val, val, hv]
    grind
  · rw [hJ] at hj
    obtain ⟨r, fs, z, rfl, hs, hf, hfl, hL, hr, hv⟩ := hj
    rw [List.drop_zero, List.drop_zero, limbs_val hB x hx.1] at hv
    obtain ⟨e1, e2⟩ := div_uniq hv hr
    try simp only [x0, x1, x2, x3, x4, x5, x6, x7, x9, x10, x11, x12, x13, x14, x15, x16, x17, x18, x19, x20, x21, x22, x23, x27, x28, x29, x30, x31, x32, x33, x34, x35, x36, x37, x38, x39, x40, x41, x42, x43, x44, x49, x50, x51, x52, x53, forR_eq, forL_eq, forE_eq, idx_eq, x54, x55, x56, x57, x58, x59, x60, x61, x62, x63, x64, x65, x66, x67, x68, x69, x70, x71, x72, x73, x74, x75, x76, x77, x78, x79, x80, x81, x82, x83, x84, x85, x86, x87, x88, x89, x90, x91, x92, yz0, yz1, yz2, yz3, Option.some.injEq, exists_eq_left', exists_eq_left, exists_and_left, V.ref.injEq, V.int.injEq, V.fn.injEq, V.bool.injEq, Ob.lst.injEq, Ob.tup.injEq, decide_eq_true_eq, decide_eq_false_iff_not, Bool.not_eq_true', Bool.not_eq_false', Bool.not_true, Bool.not_false, List.length_map, yz4, yz5, yz6, yz7, yz8, yz9, yz10, yz11, true_and, and_true, reduceCtorEq, Bool.false_eq_true, Bool.true_eq_false, if_true, if_false, false_implies, true_implies, forall_const, and_self, false_and, and_false, or_false, false_or, implies_true, Nat.reduceAdd, Nat.reduceSub, ne_eq, not_true_eq_false, not_false_eq_true, Nat.zero_le, exists_eq', exists_eq, Int.toNat_natCast, AH.set_self, List.cons.injEq]
    refine normal_ok (by exact o218 hn) hf (by exact o177 la' hfl) fun c' H'' hc' hs' hf'' => ?_
    refine ⟨by unfold lim; exact o219, fun c'' hc'' => ?_⟩
    refine h c'' c' _ (hs.none (hs'.none hc'')) (hs.none hc') ((hs.trans hs').set (hs.none (hs'.none hc''))) (by rw [e2]; exact AH.set_self) ?_
    rw [e1, ← norm_limbs hB hL]
    exact (Sub.new hc'').il hf''
end Mine
end
section
open PySem PySem.Calls PySem.W PyProof.Rows
set_option maxRecDepth 100000
namespace Mine
variable {B : Int} {Φ : Phi}
theorem shift_left_ok {n w s : Nat} (hn : 1 ≤ n) (hw : WOk w B) (hs : s < w) {H : AH} {a : Nat} {x : Int} {Q : PQ} (ha : IL H a (limbs B x)) (hx : 0 ≤ x ∧ x < 2 ^ 64) (h : Ret H (limbs B (x * 2 ^ s)) Q) :
    callS theDefs n 6 [.ref a, .int s, .int w] H Q := by
  refine call_of hn rfl rfl ?_
  have ha' : H a = some (.lst ((limbs B x).map V.int)) := ha
  have la := len_lim hw.two hx.1 hx.2
  have la' : (limbs B x).length ≤ lim := le_lim (by exact o158 la)
  have hB := hw.two
  have wa := limbs_lim hB x hx.1
  have hr := hw.rng
  have w0 : (0 : Int) < (w : Int) := by exact o220 hr.1
  have w64 : (w : Int) < 2 ^ 64 := by exact o221 hr.2
  have d0 : (s : Int) / (w : Int) = 0 := Int.ediv_eq_zero_of_lt (by exact o143) (by exact o222 hs)
  have d1 : (s : Int) % (w : Int) = s := Int.emod_eq_of_lt (by exact o143) (by exact o222 hs)
  have l1 : (1 : Nat) ≤ lim := by unfold lim; exact o223
  have l2 : -(lim : Int) ≤ 0 := by exact o224
  have l3 : (0 : Int) ≤ (lim : Int) := by exact o143
  have s0 : (0 : Int) ≤ (s : Int) := by exact o143
  have s1 : (s : Int) ≤ 1000 := by exact o225 hs hr.2
  have hP : (0 : Int) < 2 ^ s := Int.pow_pos (by decide)
  simp only [x0, x1, x2, x3, x4, x5, x6, x7, x9, x10, x11, x12, x13, x14, x15, x16, x17, x18, x19, x20, x21, x22, x23, x27, x28, x29, x30, x31, x32, x33, x34, x35, x36, x37, x38, x39, x40, x41, x42, x43, x44, x49, x50, x51, x52, x53, forR_eq, forL_eq, forE_eq, idx_eq, x54, x55, x56, x57, x58, x59, x60, x61, x62, x63, x64, x65, x66, x67, x68, x69, x70, x71, x72, x73, x74, x75, x76, x77, x78, x79, x80, x81, x82, x83, x84, x85, x86, x87, x88, x89, x90, x91, x92, yz0, yz1, yz2, yz3, Option.some.injEq, exists_eq_left', exists_eq_left, exists_and_left, V.ref.injEq, V.int.injEq, V.fn.injEq, V.bool.injEq, Ob.lst.injEq, Ob.tup.injEq, decide_eq_true_eq, decide_eq_false_iff_not, Bool.not_eq_true', Bool.not_eq_false', Bool.not_true, Bool.not_false, List.length_map, yz4, yz5, yz6, yz7, yz8, yz9, yz10, yz11, true_and, and_true, reduceCtorEq, Bool.false_eq_true, Bool.true_eq_false, if_true, if_false, false_implies, true_implies, forall_const, and_self, false_and, and_false, or_false, false_or, implies_true, Nat.reduceAdd, Nat.reduceSub, ne_eq, not_true_eq_false, not_false_eq_true, Nat.zero_le, exists_eq', exists_eq, Int.toNat_natCast, AH.set_self, List.cons.injEq, f_shift_left, hw.pow, hw.nn, hw.k, one64, Int.one_mul, ha', la', w0, w64, d0, d1, l1, l2, l3, Int.toNat_zero]
  refine ⟨fun h0 c hc => ?_, fun h0 c₁ hc₁ c hc₂ => ?_⟩
  · have : x = 0 := (limbs_eq_nil hB hx.1).mp (List.length_eq_zero_iff.mp (by exact o226 h0))
    subst this
    rw [Int.zero_mul, limbs_zero] at h
    exact h c _ hc (.new hc) (il_set (xs := []))
  have s₁ := Sub.new (ob := .lst [V.int 0]) hc₁
  have hc := s₁.none hc₂
  have s₂ := s₁.set (c := c) (ob := .lst []) hc
  generalize hH₂ : (H.set c₁ (.lst [V.int 0])).set c (.lst []) = H₂ at s₂ ⊢
  have hf₂ : IL H₂ c [] := by rw [← hH₂]; exact AH.set_self
  have ha₂ : H₂ a = some (.lst ((limbs B x).map V.int)) := s₂.il ha
  refine ⟨(limbs B x).map V.int, by simpa using la', ?_⟩
  obtain ⟨I, hI⟩ : ∃ I : Nat → Loc → AH → Prop, I = fun m l H' => ∃ cr fs z, l = [some (.ref a), some (.int s), some (.int w), some (.int 0), some (.int s), some (.ref c), some (.int cr), some (.int (B - 1)), z] ∧ Sub H H' ∧ IL H' c fs ∧ fs.length = m ∧ Lim B fs ∧ (0 ≤ cr ∧ cr < 2 ^ s) ∧
      val B fs + B ^ fs.length * cr = val B ((limbs B x).take m) * 2 ^ s ∧ m ≤ (limbs B x).length := ⟨_, rfl⟩
  have hPB : (2 : Int) ^ s < B := by rw [hw.eq]; exact Int.pow_lt_pow_of_lt (by decide) hs
  refine forL_in I (by rw [hI]; exact ⟨0, [], _, rfl, s₂, hf₂, rfl, .nil, by exact o73 hP, by simp [val], by exact o180⟩) (fun m l H' hj => ?_) (fun m l H' e he hj => ?_) fun l H' hj => ?_
  · rw [hI] at hj
    obtain ⟨cr, fs, z, rfl, hs, hf, hfm, hL, hcr, hv, hm⟩ := hj
    exact hs.il ha
  · rw [hI] at hj
    obtain ⟨cr, fs, z, rfl, hs', hf, hfm, hL, hcr, hv, hm⟩ := hj
    have hf' : H' c = some (.lst (fs.map V.int)) := hf
    have hfl : fs.length ≤ lim := by exact o196 la' hfm hm
    have be := wa.at he
    simp only [x0, x1, x2, x3, x4, x5, x6, x7, x9, x10, x11, x12, x13, x14, x15, x16, x17, x18, x19, x20, x21, x22, x23, x27, x28, x29, x30, x31, x32, x33, x34, x35, x36, x37, x38, x39, x40, x41, x42, x43, x44, x49, x50, x51, x52, x53, forR_eq, forL_eq, forE_eq, idx_eq, x54, x55, x56, x57, x58, x59, x60, x61, x62, x63, x64, x65, x66, x67, x68, x69, x70, x71, x72, x73, x74, x75, x76, x77, x78, x79, x80, x81, x82, x83, x84, x85, x86, x87, x88, x89, x90, x91, x92, yz0, yz1, yz2, yz3, Option.some.injEq, exists_eq_left', exists_eq_left, exists_and_left, V.ref.injEq, V.int.injEq, V.fn.injEq, V.bool.injEq, Ob.lst.injEq, Ob.tup.injEq, decide_eq_true_eq, decide_eq_false_iff_not, Bool.not_eq_true', Bool.not_eq_false', Bool.not_true, Bool.not_false, List.length_map, yz4, yz5, yz6, yz7, yz8, yz9, yz10, yz11, true_and, and_true, reduceCtorEq, Bool.false_eq_true, Bool.true_eq_false, if_true, if_false, false_implies, true_implies, forall_const, and_self, false_and, and_false, or_false, false_or, implies_true, Nat.reduceAdd, Nat.reduceSub, ne_eq, not_true_eq_false, not_false_eq_true, Nat.zero_le, exists_eq', exists_eq, Int.toNat_natCast, AH.set_self, List.cons.injEq, hf', hfl, band_mask hw, hw.pow, hw.nn, hw.sm be, s0, s1, bor_add' (x := e) (y := cr) (k := s) be.1 hcr]
    have mb : e * 2 ^ s ≤ (B - 1) * 2 ^ s := Int.mul_le_mul_of_nonneg_right (by exact o69 be.2) (by exact o96 hP)
    have mb' : (B - 1) * 2 ^ s = 2 ^ s * B - 2 ^ s := by grind
    have mb0 : 0 ≤ e * 2 ^ s := Int.mul_nonneg be.1 (by exact o96 hP)
    rw [hI]
    refine ⟨(cr + e * 2 ^ s) / B, fs ++ [(cr + e * 2 ^ s) % B], _, rfl, hs'.set hc, by simpa using il_set (H := H') (c := c) (xs := fs ++ [(cr + e * 2 ^ s) % B]), by simp [hfm], hL.append (.one (emod_lim (by exact o74 hB) _)), ⟨Int.ediv_nonneg (by exact o68 hcr.1 mb0) (by exact o76 hB), Int.ediv_lt_of_lt_mul (by exact o74 hB) (by exact o70 hcr.2 mb mb')⟩, ?_, ?_⟩
    · rw [out_limb (by exact o74 hB) hv, val_next he, hfm]
      grind
    · have := (List.getElem?_eq_some_iff.mp he).1; exact o198 this
  · rw [hI] at hj
    obtain ⟨cr, fs, z, rfl, hs', hf, hfm, hL, hcr, hv, hm⟩ := hj
    rw [List.take_of_length_le (Nat.le_refl _), limbs_val hB x hx.1] at hv
    have hf' : H' c = some (.lst (fs.map V.int)) := hf
    have hfl : fs.length ≤ lim := by exact o177 la' hfm
    simp only [x0, x1, x2, x3, x4, x5, x6, x7, x9, x10, x11, x12, x13, x14, x15, x16, x17, x18, x19, x20, x21, x22, x23, x27, x28, x29, x30, x31, x32, x33, x34, x35, x36, x37, x38, x39, x40, x41, x42, x43, x44, x49, x50, x51, x52, x53, forR_eq, forL_eq, forE_eq, idx_eq, x54, x55, x56, x57, x58, x59, x60, x61, x62, x63, x64, x65, x66, x67, x68, x69, x70, x71, x72, x73, x74, x75, x76, x77, x78, x79, x80, x81, x82, x83, x84, x85, x86, x87, x88, x89, x90, x91, x92, yz0, yz1, yz2, yz3, Option.some.injEq, exists_eq_left', exists_eq_left, exists_and_left, V.ref.injEq, V.int.injEq, V.fn.injEq, V.bool.injEq, Ob.lst.injEq, Ob.tup.injEq, decide_eq_true_eq, decide_eq_false_iff_not, Bool.not_eq_true', Bool.not_eq_false', Bool.not_true, Bool.not_false, List.length_map, yz4, yz5, yz6, yz7, yz8, yz9, yz10, yz11, true_and, and_true, reduceCtorEq, Bool.false_eq_true, Bool.true_eq_false, if_true, if_false, false_implies, true_implies, forall_const, and_self, false_and, and_false, or_false, false_or, implies_true, Nat.reduceAdd, Nat.reduceSub, ne_eq, not_true_eq_false, not_false_eq_true, Nat.zero_le, exists_eq', exists_eq, Int.toNat_natCast, AH.set_self, List.cons.injEq, hf', hfl]
    refine ⟨fun h0 => h c _ hc (hs'.set hc) ?_, fun h0 => h c _ hc hs' ?_⟩
    · rw [← fin_carry hB hL (by exact o227 hPB hcr.2 h0) hv]
      simpa using il_set (H := H') (c := c) (xs := fs ++ [cr])
    · rw [← fin_none hB hL (by exact o151 hcr.1 h0) hv ?_]
      · exact hf
      · by_cases hz : fs.length = 0
        · exact .inl (List.length_eq_zero_iff.mp hz)
        · refine .inr (len_ge hB hx.1 ?_ hfm hz)
          have := Int.mul_le_mul_of_nonneg_left (show 1 ≤ (2 : Int) ^ s by exact o94 hP) hx.1
          exact o147 this
theorem shift_right_ok {n w s : Nat} (hn : 2 ≤ n) (hw : WOk w B) (hs : s < w) {H : AH} {a : Nat} {x : Int} {Q : PQ} (ha : IL H a (limbs B x)) (hx : 0 ≤ x ∧ x < 2 ^ 100) (h : Ret H (limbs B (x / 2 ^ s)) Q) :
    callS theDefs n 7 [.ref a, .int s, .int w] H Q := by
  refine call_of (by exact o204 hn) rfl rfl ?_
  have ha' : H a = some (.lst ((limbs B x).map V.int)) := ha
  have la : (limbs B x).length ≤ 100 := limbs_len hw.two 100 x hx.1 (Int.lt_of_lt_of_le hx.2 (pow_mono hw.two 100))
  have la' : (limbs B x).length ≤ lim := le_lim (by exact o228 la)
  have hB := hw.two
  have wa := limbs_lim hB x hx.1
  have hr := hw.rng
  have w0 : (0 : Int) < (w : Int) := by exact o220 hr.1
  have w64 : (w : Int) < 2 ^ 64 := by exact o221 hr.2
  have d0 : (s : Int) / (w : Int) = 0 := Int.ediv_eq_zero_of_lt (by exact o143) (by exact o222 hs)
  have d1 : (s : Int) % (w : Int) = s := Int.emod_eq_of_lt (by exact o143) (by exact o222 hs)
  have s0 : (0 : Int) ≤ (s : Int) := by exact o143
  have t0 : (0 : Int) ≤ (w : Int) - (s : Int) := by exact o229 hs
  have t1 : (w : Int) - (s : Int) ≤ 1000 := by exact o230 hr.2
  have t2 : ((w : Int) - (s : Int)).toNat = w - s := by exact o125
  have hP : (0 : Int) < 2 ^ s := Int.pow_pos (by decide)
  have hq : (0 : Int) < 2 ^ (w - s) := Int.pow_pos (by decide)
  have hBe : B = 2 ^ s * 2 ^ (w - s) := by rw [hw.eq, ← Int.pow_add]; congr 1; exact o231 hs
  simp only [x0, x1, x2, x3, x4, x5, x6, x7, x9, x10, x11, x12, x13, x14, x15, x16, x17, x18, x19, x20, x21, x22, x23, x27, x28, x29, x30, x31, x32, x33, x34, x35, x36, x37, x38, x39, x40, x41, x42, x43, x44, x49, x50, x51, x52, x53, forR_eq, forL_eq, forE_eq, idx_eq, x54, x55, x56, x57, x58, x59, x60, x61, x62, x63, x64, x65, x66, x67, x68, x69, x70, x71, x72, x73, x74, x75, x76, x77, x78, x79, x80, x81, x82, x83, x84, x85, x86, x87, x88, x89, x90, x91, x92, yz0, yz1, yz2, yz3, Option.some.injEq, exists_eq_left', exists_eq_left, exists_and_left, V.ref.injEq, V.int.injEq, V.fn.injEq, V.bool.injEq, Ob.lst.injEq, Ob.tup.injEq, decide_eq_true_eq, decide_eq_false_iff_not, Bool.not_eq_true', Bool.not_eq_false', Bool.not_true, Bool.not_false, List.length_map, yz4, yz5, yz6, yz7, yz8, yz9, yz10, yz11, true_and, and_true, reduceCtorEq, Bool.false_eq_true, Bool.true_eq_false, if_true, if_false, false_implies, true_implies, forall_const, and_self, false_and, and_false, or_false, false_or, implies_true, Nat.reduceAdd, Nat.reduceSub, ne_eq, not_true_eq_false, not_false_eq_true, Nat.zero_le, exists_eq', exists_eq, Int.toNat_natCast, AH.set_self, List.cons.injEq, f_shift_right, hw.pow, hw.nn, hw.k, one64, Int.one_mul, w0, w64, d0, d1]
  intro c hc
  have hac : (H.set c (.lst [])) a = some (.lst ((limbs B x).map V.int)) := (Sub.new hc).il ha
  simp only [x0, x1, x2, x3, x4, x5, x6, x7, x9, x10, x11, x12, x13, x14, x15, x16, x17, x18, x19, x20, x21, x22, x23, x27, x28, x29, x30, x31, x32, x33, x34, x35, x36, x37, x38, x39, x40, x41, x42, x43, x44, x49, x50, x51, x52, x53, forR_eq, forL_eq, forE_eq, idx_eq, x54, x55, x56, x57, x58, x59, x60, x61, x62, x63, x64, x65, x66, x67, x68, x69, x70, x71, x72, x73, x74, x75, x76, x77, x78, x79, x80, x81, x82, x83, x84, x85, x86, x87, x88, x89, x90, x91, x92, yz0, yz1, yz2, yz3, Option.some.injEq, exists_eq_left', exists_eq_left, exists_and_left, V.ref.injEq, V.int.injEq, V.fn.injEq, V.bool.injEq, Ob.lst.injEq, Ob.tup.injEq, decide_eq_true_eq, decide_eq_false_iff_not, Bool.not_eq_true', Bool.not_eq_false', Bool.not_true, Bool.not_false, List.length_map, yz4, yz5, yz6, yz7, yz8, yz9, yz10, yz11, true_and, and_true, reduceCtorEq, Bool.false_eq_true, Bool.true_eq_false, if_true, if_false, false_implies, true_implies, forall_const, and_self, false_and, and_false, or_false, false_or, implies_true, Nat.reduceAdd, Nat.reduceSub, ne_eq, not_true_eq_false, not_false_eq_true, Nat.zero_le, exists_eq', exists_eq, Int.toNat_natCast, AH.set_self, List.cons.injEq, hac, la']
  obtain ⟨I, hI⟩ : ∃ I : Nat → Loc → AH → Prop, I = fun m l H' => ∃ fs z y, l = [some (.ref a), some (.int s), some (.int w), some (.int 0), some (.int s), some (.ref c), some (.int (B - 1)), z, y] ∧ Sub H H' ∧ IL H' c fs ∧ fs.length = m ∧ Lim B fs ∧
      val B fs + B ^ fs.length * (val B ((limbs B x).drop m) / 2 ^ s) = x / 2 ^ s := ⟨_, rfl⟩
  refine forR_up (a := 0) (n := (limbs B x).length) rfl rfl (by exact o180) (by exact o228 la) I (by rw [hI]; exact ⟨[], _, _, rfl, .new hc, il_set (xs := []), rfl, .nil, by simp [val, limbs_val hB x hx.1]⟩) (fun m l H' _ hm hj => ?_) fun l H' hj => ?_
  · rw [hI] at hj
    obtain ⟨fs, z, y, rfl, hs', hf, hfm, hL, hv⟩ := hj
    have ex := List.getElem?_eq_getElem (l := limbs B x) (i := m) hm
    have hf' : H' c = some (.lst (fs.map V.int)) := hf
    have hfl : fs.length ≤ lim := by exact o183 la' hm hfm
    have ha'' : H' a = some (.lst ((limbs B x).map V.int)) := hs'.il ha
    have be := wa.at ex
    have hdr : (limbs B x).drop m = (limbs B x)[m] :: (limbs B x).drop (m + 1) := List.drop_eq_getElem_cons hm
    have step : ∀ u : Int, 0 ≤ u ∧ u < B → ((limbs B x).drop (m + 1) = [] ∧ u = 0 ∨ ∃ r, (limbs B x).drop (m + 1) = u :: r) →
        execsS (callS theDefs (n - 1)) (.cons (.app (.var 5) (.bin .band (.bin .bor (.bin .shr (.idx (.var 0) (.var 7)) (.var 4)) (.bin .shl (.var 8) (.bin .sub (.var 2) (.var 4)))) (.var 6))) .nil)
          [some (.ref a), some (.int s), some (.int w), some (.int 0), some (.int s), some (.ref c), some (.int (B - 1)), some (.int (m : Int)), some (.int u)] H' fun f l' H' => match f with
            | .next => I (m + 1) l' H'
            | .ret v => False := fun u hu hur => by
      simp only [x0, x1, x2, x3, x4, x5, x6, x7, x9, x10, x11, x12, x13, x14, x15, x16, x17, x18, x19, x20, x21, x22, x23, x27, x28, x29, x30, x31, x32, x33, x34, x35, x36, x37, x38, x39, x40, x41, x42, x43, x44, x49, x50, x51, x52, x53, forR_eq, forL_eq, forE_eq, idx_eq, x54, x55, x56, x57, x58, x59, x60, x61, x62, x63, x64, x65, x66, x67, x68, x69, x70, x71, x72, x73, x74, x75, x76, x77, x78, x79, x80, x81, x82, x83, x84, x85, x86, x87, x88, x89, x90, x91, x92, yz0, yz1, yz2, yz3, Option.some.injEq, exists_eq_left', exists_eq_left, exists_and_left, V.ref.injEq, V.int.injEq, V.fn.injEq, V.bool.injEq, Ob.lst.injEq, Ob.tup.injEq, decide_eq_true_eq, decide_eq_false_iff_not, Bool.not_eq_true', Bool.not_eq_false', Bool.not_true, Bool.not_false, List.length_map, yz4, yz5, yz6, yz7, yz8, yz9, yz10, yz11, true_and, and_true, reduceCtorEq, Bool.false_eq_true, Bool.true_eq_false, if_true, if_false, false_implies, true_implies, forall_const, and_self, false_and, and_false, or_false, false_or, implies_true, Nat.reduceAdd, Nat.reduceSub, ne_eq, not_true_eq_false, not_false_eq_true, Nat.zero_le, exists_eq', exists_eq, Int.toNat_natCast, AH.set_self, List.cons.injEq, hf', hfl]
      refine idx_nat m (hs'.il ha) la' rfl ex ?_
      have hy : 0 ≤ (limbs B x)[m] / 2 ^ s ∧ (limbs B x)[m] / 2 ^ s < 2 ^ (w - s) := ⟨Int.ediv_nonneg be.1 (by exact o96 hP), Int.ediv_lt_of_lt_mul hP (by rw [Int.mul_comm, ← hBe]; exact be.2)⟩
      simp only [x0, x1, x2, x3, x4, x5, x6, x7, x9, x10, x11, x12, x13, x14, x15, x16, x17, x18, x19, x20, x21, x22, x23, x27, x28, x29, x30, x31, x32, x33, x34, x35, x36, x37, x38, x39, x40, x41, x42, x43, x44, x49, x50, x51, x52, x53, forR_eq, forL_eq, forE_eq, idx_eq, x54, x55, x56, x57, x58, x59, x60, x61, x62, x63, x64, x65, x66, x67, x68, x69, x70, x71, x72, x73, x74, x75, x76, x77, x78, x79, x80, x81, x82, x83, x84, x85, x86, x87, x88, x89, x90, x91, x92, yz0, yz1, yz2, yz3, Option.some.injEq, exists_eq_left', exists_eq_left, exists_and_left, V.ref.injEq, V.int.injEq, V.fn.injEq, V.bool.injEq, Ob.lst.injEq, Ob.tup.injEq, decide_eq_true_eq, decide_eq_false_iff_not, Bool.not_eq_true', Bool.not_eq_false', Bool.not_true, Bool.not_false, List.length_map, yz4, yz5, yz6, yz7, yz8, yz9, yz10, yz11, true_and, and_true, reduceCtorEq, Bool.false_eq_true, Bool.true_eq_false, if_true, if_false, false_implies, true_implies, forall_const, and_self, false_and, and_false, or_false, false_or, implies_true, Nat.reduceAdd, Nat.reduceSub, ne_eq, not_true_eq_false, not_false_eq_true, Nat.zero_le, exists_eq', exists_eq, Int.toNat_natCast, AH.set_self, List.cons.injEq, hf', hfl, band_mask hw, s0, t0, t1, t2, hw.sm hu, bor_add' (x := u) (k := w - s) hu.1 hy]
      have hu' : ∃ V, val B ((limbs B x).drop (m + 1)) = u + B * V := by
        rcases hur with ⟨e, rfl⟩ | ⟨r, e⟩
        · exact ⟨0, by rw [e]; simp [val]⟩
        · exact ⟨val B r, by rw [e]; rfl⟩
      obtain ⟨V, hV⟩ := hu'
      have e1 : val B ((limbs B x).drop m) / 2 ^ s = (limbs B x)[m] / 2 ^ s + 2 ^ (w - s) * val B ((limbs B x).drop (m + 1)) := by
        rw [hdr, val]
        have e0 : ∀ p q : Int, p + B * q = p + 2 ^ s * (2 ^ (w - s) * q) := fun p q => by rw [hBe]; grind
        rw [e0, Int.add_mul_ediv_left _ _ (by exact o7 hP)]
      have e2 : (val B ((limbs B x).drop m) / 2 ^ s) % B = ((limbs B x)[m] / 2 ^ s + u * 2 ^ (w - s)) % B := by
        rw [e1, hV]
        have : (limbs B x)[m] / 2 ^ s + 2 ^ (w - s) * (u + B * V) = (limbs B x)[m] / 2 ^ s + u * 2 ^ (w - s) + B * (2 ^ (w - s) * V) := by grind
        rw [this, Int.add_mul_emod_self_left]
      have e3 : (val B ((limbs B x).drop m) / 2 ^ s) / B = val B ((limbs B x).drop (m + 1)) / 2 ^ s := by
        rw [Int.ediv_ediv_of_nonneg (by exact o96 hP), Int.mul_comm, ← Int.ediv_ediv_of_nonneg (by exact o76 hB), hdr, val, Int.add_mul_ediv_left _ _ (by exact o84 hB), Int.ediv_eq_zero_of_lt be.1 be.2, Int.zero_add]
      rw [hI]
      refine ⟨fs ++ [((limbs B x)[m] / 2 ^ s + u * 2 ^ (w - s)) % B], _, _, rfl, hs'.set hc, by simpa using il_set (H := H') (c := c) (xs := fs ++ [((limbs B x)[m] / 2 ^ s + u * 2 ^ (w - s)) % B]), by simp [hfm], hL.append (.one (emod_lim (by exact o74 hB) _)), ?_⟩
      rw [← e2, ← e3, val_snoc, List.length_append, List.length_singleton, Int.pow_succ, ← hv]
      have := Int.emod_add_mul_ediv (val B ((limbs B x).drop m) / 2 ^ s) B
      generalize (val B ((limbs B x).drop m) / 2 ^ s) % B = r at *
      generalize (val B ((limbs B x).drop m) / 2 ^ s) / B = q at *
      rw [← this]
      grind
    simp only [x0, x1, x2, x3, x4, x5, x6, x7, x9, x10, x11, x12, x13, x14, x15, x16, x17, x18, x19, x20, x21, x22, x23, x27, x28, x29, x30, x31, x32, x33, x34, x35, x36, x37, x38, x39, x40, x41, x42, x43, x44, x49, x50, x51, x52, x53, forR_eq, forL_eq, forE_eq, idx_eq, x54, x55, x56, x57, x58, x59, x60, x61, x62, x63, x64, x65, x66, x67, x68, x69, x70, x71, x72, x73, x74, x75, x76, x77, x78, x79, x80, x81, x82, x83, x84, x85, x86, x87, x88, x89, x90, x91, x92, yz0, yz1, yz2, yz3, Option.some.injEq, exists_eq_left', exists_eq_left, exists_and_left, V.ref.injEq, V.int.injEq, V.fn.injEq, V.bool.injEq, Ob.lst.injEq, Ob.tup.injEq, decide_eq_true_eq, decide_eq_false_iff_not, Bool.not_eq_true', Bool.not_eq_false', Bool.not_true, Bool.not_false, List.length_map, yz4, yz5, yz6, yz7, yz8, yz9, yz10, yz11, true_and, and_true, reduceCtorEq, Bool.false_eq_true, Bool.true_eq_false, if_true, if_false, false_implies, true_implies, forall_const, and_self, false_and, and_false, or_false, false_or, implies_true, Nat.reduceAdd, Nat.reduceSub, ne_eq, not_true_eq_false, not_false_eq_true, Nat.zero_le, exists_eq', exists_eq, Int.toNat_natCast, AH.set_self, List.cons.injEq, ha'', la']
    refine ⟨fun hlt => ?_, fun hlt => ?_⟩
    · have ey := List.getElem?_eq_getElem (l := limbs B x) (i := m + 1) (by exact o232 hlt)
      refine idx_nat (m + 1) (hs'.il ha) la' (by exact o233) ey ?_
      have q := step _ (wa.at ey) (.inr ⟨_, List.drop_eq_getElem_cons (by exact o232 hlt)⟩)
      simp only [x0, x1, x2, x3, x4, x5, x6, x7, x9, x10, x11, x12, x13, x14, x15, x16, x17, x18, x19, x20, x21, x22, x23, x27, x28, x29, x30, x31, x32, x33, x34, x35, x36, x37, x38, x39, x40, x41, x42, x43, x44, x49, x50, x51, x52, x53, forR_eq, forL_eq, forE_eq, idx_eq, x54, x55, x56, x57, x58, x59, x60, x61, x62, x63, x64, x65, x66, x67, x68, x69, x70, x71, x72, x73, x74, x75, x76, x77, x78, x79, x80, x81, x82, x83, x84, x85, x86, x87, x88, x89, x90, x91, x92, yz0, yz1, yz2, yz3, Option.some.injEq, exists_eq_left', exists_eq_left, exists_and_left, V.ref.injEq, V.int.injEq, V.fn.injEq, V.bool.injEq, Ob.lst.injEq, Ob.tup.injEq, decide_eq_true_eq, decide_eq_false_iff_not, Bool.not_eq_true', Bool.not_eq_false', Bool.not_true, Bool.not_false, List.length_map, yz4, yz5, yz6, yz7, yz8, yz9, yz10, yz11, true_and, and_true, reduceCtorEq, Bool.false_eq_true, Bool.true_eq_false, if_true, if_false, false_implies, true_implies, forall_const, and_self, false_and, and_false, or_false, false_or, implies_true, Nat.reduceAdd, Nat.reduceSub, ne_eq, not_true_eq_false, not_false_eq_true, Nat.zero_le, exists_eq', exists_eq, Int.toNat_natCast, AH.set_self, List.cons.injEq, ha'', la'] at q ⊢
      exact q
    · have q := step 0 (by exact o195 hB) (.inl ⟨List.drop_eq_nil_of_le (by exact o234 hlt), rfl⟩)
      simp only [x0, x1, x2, x3, x4, x5, x6, x7, x9, x10, x11, x12, x13, x14, x15, x16, x17, x18, x19, x20, x21, x22, x23, x27, x28, x29, x30, x31, x32, x33, x34, x35, x36, x37, x38, x39, x40, x41, x42, x43, x44, x49, x50, x51, x52, x53, forR_eq, forL_eq, forE_eq, idx_eq, x54, x55, x56, x57, x58, x59, x60, x61, x62, x63, x64, x65, x66, x67, x68, x69, x70, x71, x72, x73, x74, x75, x76, x77, x78, x79, x80, x81, x82, x83, x84, x85, x86, x87, x88, x89, x90, x91, x92, yz0, yz1, yz2, yz3, Option.some.injEq, exists_eq_left', exists_eq_left, exists_and_left, V.ref.injEq, V.int.injEq, V.fn.injEq, V.bool.injEq, Ob.lst.injEq, Ob.tup.injEq, decide_eq_true_eq, decide_eq_false_iff_not, Bool.not_eq_true', Bool.not_eq_false', Bool.not_true, Bool.not_false, List.length_map, yz4, yz5, yz6, yz7, yz8, yz9, yz10, yz11, true_and, and_true, reduceCtorEq, Bool.false_eq_true, Bool.true_eq_false, if_true, if_false, false_implies, true_implies, forall_const, and_self, false_and, and_false, or_false, false_or, implies_true, Nat.reduceAdd, Nat.reduceSub, ne_eq, not_true_eq_false, not_false_eq_true, Nat.zero_le, exists_eq', exists_eq, Int.toNat_natCast, AH.set_self, List.cons.injEq, ha'', la'] at q ⊢
      exact q
  · rw [hI] at hj
    obtain ⟨fs, z, y, rfl, hs', hf, hfm, hL, hv⟩ := hj
    rw [List.drop_eq_nil_of_le (Nat.le_refl _)] at hv
    try simp only [x0, x1, x2, x3, x4, x5, x6, x7, x9, x10, x11, x12, x13, x14, x15, x16, x17, x18, x19, x20, x21, x22, x23, x27, x28, x29, x30, x31, x32, x33, x34, x35, x36, x37, x38, x39, x40, x41, x42, x43, x44, x49, x50, x51, x52, x53, forR_eq, forL_eq, forE_eq, idx_eq, x54, x55, x56, x57, x58, x59, x60, x61, x62, x63, x64, x65, x66, x67, x68, x69, x70, x71, x72, x73, x74, x75, x76, x77, x78, x79, x80, x81, x82, x83, x84, x85, x86, x87, x88, x89, x90, x91, x92, yz0, yz1, yz2, yz3, Option.some.injEq, exists_eq_left', exists_eq_left, exists_and_left, V.ref.injEq, V.int.injEq, V.fn.injEq, V.bool.injEq, Ob.lst.injEq, Ob.tup.injEq, decide_eq_true_eq, decide_eq_false_iff_not, Bool.not_eq_true', Bool.not_eq_false', Bool.not_true, Bool.not_false, List.length_map, yz4, yz5, yz6, yz7, yz8, yz9, yz10, yz11, true_and, and_true, reduceCtorEq, Bool.false_eq_true, Bool.true_eq_false, if_true, if_false, false_implies, true_implies, forall_const, and_self, false_and, and_false, or_false, false_or, implies_true, Nat.reduceAdd, Nat.reduceSub, ne_eq, not_true_eq_false, not_false_eq_true, Nat.zero_le, exists_eq', exists_eq, Int.toNat_natCast, AH.set_self, List.cons.injEq]
    refine normal_ok (by exact o218 hn) hf (by exact o177 la' hfm) fun c' H'' hc' hs'' hf'' => ?_
    refine h c' H'' (hs'.none hc') (hs'.trans hs'') ?_
    have e : val B fs = x / 2 ^ s := by simpa [val] using hv
    rw [← e, ← norm_limbs hB hL]
    exact hf''
theorem bits_ok {n w : Nat} (hn : 1 ≤ n) (hw : WOk w B) {H : AH} {a : Nat} {t : Int} {Q : PQ} (ha : IL H a [t]) (q : Q (.int (Builtin.Int.intBits t)) H) : callS theDefs n 8 [.ref a, .int w] H Q := by
  refine call_of hn rfl rfl ?_
  have ha' : H a = some (.lst ([t].map V.int)) := ha
  have l1 : ([t] : List Int).length ≤ lim := le_lim (by simp)
  have l2 : 0 + 1 ≤ lim := le_lim (by simp)
  have w64 : (w : Int).natAbs < 2 ^ 64 := by have := hw.rng; exact o235 this.2
  have ha2 : H a = some (.lst [V.int t]) := ha
  simp only [x0, x1, x2, x3, x4, x5, x6, x7, x9, x10, x11, x12, x13, x14, x15, x16, x17, x18, x19, x20, x21, x22, x23, x27, x28, x29, x30, x31, x32, x33, x34, x35, x36, x37, x38, x39, x40, x41, x42, x43, x44, x49, x50, x51, x52, x53, forR_eq, forL_eq, forE_eq, idx_eq, x54, x55, x56, x57, x58, x59, x60, x61, x62, x63, x64, x65, x66, x67, x68, x69, x70, x71, x72, x73, x74, x75, x76, x77, x78, x79, x80, x81, x82, x83, x84, x85, x86, x87, x88, x89, x90, x91, x92, yz0, yz1, yz2, yz3, Option.some.injEq, exists_eq_left', exists_eq_left, exists_and_left, V.ref.injEq, V.int.injEq, V.fn.injEq, V.bool.injEq, Ob.lst.injEq, Ob.tup.injEq, decide_eq_true_eq, decide_eq_false_iff_not, Bool.not_eq_true', Bool.not_eq_false', Bool.not_true, Bool.not_false, List.length_map, yz4, yz5, yz6, yz7, yz8, yz9, yz10, yz11, true_and, and_true, reduceCtorEq, Bool.false_eq_true, Bool.true_eq_false, if_true, if_false, false_implies, true_implies, forall_const, and_self, false_and, and_false, or_false, false_or, implies_true, Nat.reduceAdd, Nat.reduceSub, ne_eq, not_true_eq_false, not_false_eq_true, Nat.zero_le, exists_eq', exists_eq, Int.toNat_natCast, AH.set_self, List.cons.injEq, f_bits, ha2, l2]
  refine ⟨fun _ => ?_, fun h => by simp at h⟩
  refine ⟨⟨by simp, w64⟩, ?_⟩
  refine idx_last ha l1 rfl ?_
  try simp only [x0, x1, x2, x3, x4, x5, x6, x7, x9, x10, x11, x12, x13, x14, x15, x16, x17, x18, x19, x20, x21, x22, x23, x27, x28, x29, x30, x31, x32, x33, x34, x35, x36, x37, x38, x39, x40, x41, x42, x43, x44, x49, x50, x51, x52, x53, forR_eq, forL_eq, forE_eq, idx_eq, x54, x55, x56, x57, x58, x59, x60, x61, x62, x63, x64, x65, x66, x67, x68, x69, x70, x71, x72, x73, x74, x75, x76, x77, x78, x79, x80, x81, x82, x83, x84, x85, x86, x87, x88, x89, x90, x91, x92, yz0, yz1, yz2, yz3, Option.some.injEq, exists_eq_left', exists_eq_left, exists_and_left, V.ref.injEq, V.int.injEq, V.fn.injEq, V.bool.injEq, Ob.lst.injEq, Ob.tup.injEq, decide_eq_true_eq, decide_eq_false_iff_not, Bool.not_eq_true', Bool.not_eq_false', Bool.not_true, Bool.not_false, List.length_map, yz4, yz5, yz6, yz7, yz8, yz9, yz10, yz11, true_and, and_true, reduceCtorEq, Bool.false_eq_true, Bool.true_eq_false, if_true, if_false, false_implies, true_implies, forall_const, and_self, false_and, and_false, or_false, false_or, implies_true, Nat.reduceAdd, Nat.reduceSub, ne_eq, not_true_eq_false, not_false_eq_true, Nat.zero_le, exists_eq', exists_eq, Int.toNat_natCast, AH.set_self, List.cons.injEq]
  simpa using q
theorem check_base_ok {n : Nat} (hn : 1 ≤ n) {H : AH} {b : Int} (hb : 2 ≤ b) {Q : PQ} (q : Q .none H) : callS theDefs n 10 [.int b] H Q := by
  refine call_of hn rfl rfl ?_
  simp only [x0, x1, x2, x3, x4, x5, x6, x7, x9, x10, x11, x12, x13, x14, x15, x16, x17, x18, x19, x20, x21, x22, x23, x27, x28, x29, x30, x31, x32, x33, x34, x35, x36, x37, x38, x39, x40, x41, x42, x43, x44, x49, x50, x51, x52, x53, forR_eq, forL_eq, forE_eq, idx_eq, x54, x55, x56, x57, x58, x59, x60, x61, x62, x63, x64, x65, x66, x67, x68, x69, x70, x71, x72, x73, x74, x75, x76, x77, x78, x79, x80, x81, x82, x83, x84, x85, x86, x87, x88, x89, x90, x91, x92, yz0, yz1, yz2, yz3, Option.some.injEq, exists_eq_left', exists_eq_left, exists_and_left, V.ref.injEq, V.int.injEq, V.fn.injEq, V.bool.injEq, Ob.lst.injEq, Ob.tup.injEq, decide_eq_true_eq, decide_eq_false_iff_not, Bool.not_eq_true', Bool.not_eq_false', Bool.not_true, Bool.not_false, List.length_map, yz4, yz5, yz6, yz7, yz8, yz9, yz10, yz11, true_and, and_true, reduceCtorEq, Bool.false_eq_true, Bool.true_eq_false, if_true, if_false, false_implies, true_implies, forall_const, and_self, false_and, and_false, or_false, false_or, implies_true, Nat.reduceAdd, Nat.reduceSub, ne_eq, not_true_eq_false, not_false_eq_true, Nat.zero_le, exists_eq', exists_eq, Int.toNat_natCast, AH.set_self, List.cons.injEq, f_check_base]
  exact ⟨fun h => by exact o236 hb h, fun _ => q⟩
theorem plain_of_ok {n w : Nat} (hn : 1 ≤ n) (hw : WOk w B) {H : AH} {a : Nat} {x : Int} {Q : PQ} (ha : IL H a (limbs B x)) (hx : 0 ≤ x ∧ x < 2 ^ 64) (q : ∀ H', Sub H H' → Q (.int x) H') : callS theDefs n 9 [.ref a, .int w] H Q := by
  refine call_of hn rfl rfl ?_
  have ha' : H a = some (.lst ((limbs B x).map V.int)) := ha
  have la := len_lim hw.two hx.1 hx.2
  have la' : (limbs B x).length ≤ lim := le_lim (by exact o158 la)
  have hB := hw.two
  have wa := limbs_lim hB x hx.1
  simp only [x0, x1, x2, x3, x4, x5, x6, x7, x9, x10, x11, x12, x13, x14, x15, x16, x17, x18, x19, x20, x21, x22, x23, x27, x28, x29, x30, x31, x32, x33, x34, x35, x36, x37, x38, x39, x40, x41, x42, x43, x44, x49, x50, x51, x52, x53, forR_eq, forL_eq, forE_eq, idx_eq, x54, x55, x56, x57, x58, x59, x60, x61, x62, x63, x64, x65, x66, x67, x68, x69, x70, x71, x72, x73, x74, x75, x76, x77, x78, x79, x80, x81, x82, x83, x84, x85, x86, x87, x88, x89, x90, x91, x92, yz0, yz1, yz2, yz3, Option.some.injEq, exists_eq_left', exists_eq_left, exists_and_left, V.ref.injEq, V.int.injEq, V.fn.injEq, V.bool.injEq, Ob.lst.injEq, Ob.tup.injEq, decide_eq_true_eq, decide_eq_false_iff_not, Bool.not_eq_true', Bool.not_eq_false', Bool.not_true, Bool.not_false, List.length_map, yz4, yz5, yz6, yz7, yz8, yz9, yz10, yz11, true_and, and_true, reduceCtorEq, Bool.false_eq_true, Bool.true_eq_false, if_true, if_false, false_implies, true_implies, forall_const, and_self, false_and, and_false, or_false, false_or, implies_true, Nat.reduceAdd, Nat.reduceSub, ne_eq, not_true_eq_false, not_false_eq_true, Nat.zero_le, exists_eq', exists_eq, Int.toNat_natCast, AH.set_self, List.cons.injEq, f_plain_of, ha', la']
  intro c hc
  refine ⟨(limbs B x).reverse.map V.int, by simpa using la', ?_⟩
  rw [← List.map_reverse]
  have hrc : IL (H.set c (.lst ((limbs B x).reverse.map V.int))) c (limbs B x).reverse := il_set
  obtain ⟨I, hI⟩ : ∃ I : Nat → Loc → AH → Prop, I = fun m l H' => ∃ z, H' = H.set c (.lst ((limbs B x).reverse.map V.int)) ∧ l = [some (.ref a), some (.int w), some (.int (val B ((limbs B x).reverse.take m).reverse)), z] := ⟨_, rfl⟩
  refine forL_in I (by rw [hI]; exact ⟨none, rfl, rfl⟩) (fun m l H' hj => ?_) (fun m l H' e he hj => ?_) fun l H' hj => ?_
  · rw [hI] at hj
    obtain ⟨z, rfl, rfl⟩ := hj
    exact hrc
  · rw [hI] at hj
    obtain ⟨z, rfl, rfl⟩ := hj
    have hd : ((limbs B x).reverse.take m).reverse = (limbs B x).drop ((limbs B x).length - m) := by rw [List.take_reverse, List.reverse_reverse]
    have hb : (val B ((limbs B x).reverse.take m).reverse).natAbs < 2 ^ 64 := by
      rw [hd]
      have h1 := val_td (B := B) (limbs B x) ((limbs B x).length - m)
      have h2 := val_nonneg (by exact o76 hB) (wa.take ((limbs B x).length - m))
      have h3 := val_nonneg (by exact o76 hB) (wa.drop ((limbs B x).length - m))
      have h4 : 0 < B ^ ((limbs B x).length - m) := Int.pow_pos (by exact o74 hB)
      have h5 := Int.mul_le_mul_of_nonneg_right (show 1 ≤ B ^ ((limbs B x).length - m) by exact o94 h4) h3
      rw [limbs_val hB x hx.1] at h1
      exact o237 hx.2 h1 h2 h3 h5
    simp only [x0, x1, x2, x3, x4, x5, x6, x7, x9, x10, x11, x12, x13, x14, x15, x16, x17, x18, x19, x20, x21, x22, x23, x27, x28, x29, x30, x31, x32, x33, x34, x35, x36, x37, x38, x39, x40, x41, x42, x43, x44, x49, x50, x51, x52, x53, forR_eq, forL_eq, forE_eq, idx_eq, x54, x55, x56, x57, x58, x59, x60, x61, x62, x63, x64, x65, x66, x67, x68, x69, x70, x71, x72, x73, x74, x75, x76, x77, x78, x79, x80, x81, x82, x83, x84, x85, x86, x87, x88, x89, x90, x91, x92, yz0, yz1, yz2, yz3, Option.some.injEq, exists_eq_left', exists_eq_left, exists_and_left, V.ref.injEq, V.int.injEq, V.fn.injEq, V.bool.injEq, Ob.lst.injEq, Ob.tup.injEq, decide_eq_true_eq, decide_eq_false_iff_not, Bool.not_eq_true', Bool.not_eq_false', Bool.not_true, Bool.not_false, List.length_map, yz4, yz5, yz6, yz7, yz8, yz9, yz10, yz11, true_and, and_true, reduceCtorEq, Bool.false_eq_true, Bool.true_eq_false, if_true, if_false, false_implies, true_implies, forall_const, and_self, false_and, and_false, or_false, false_or, implies_true, Nat.reduceAdd, Nat.reduceSub, ne_eq, not_true_eq_false, not_false_eq_true, Nat.zero_le, exists_eq', exists_eq, Int.toNat_natCast, AH.set_self, List.cons.injEq, hw.pow, hw.nn, hw.k, hb]
    rw [hI]
    refine ⟨some (V.int e), rfl, ?_⟩
    have hm := (List.getElem?_eq_some_iff.mp he).1
    have hm' := (List.getElem?_eq_some_iff.mp he).2
    have e1 : val B ((limbs B x).reverse.take (m + 1)).reverse = val B ((limbs B x).reverse.take m).reverse * B + e := by
      rw [List.take_succ_eq_append_getElem hm, hm', List.reverse_append]
      show e + B * val B ((limbs B x).reverse.take m).reverse = _
      rw [Int.mul_comm B, Int.add_comm e]
    rw [e1]
  · rw [hI] at hj
    obtain ⟨z, rfl, rfl⟩ := hj
    try simp only [x0, x1, x2, x3, x4, x5, x6, x7, x9, x10, x11, x12, x13, x14, x15, x16, x17, x18, x19, x20, x21, x22, x23, x27, x28, x29, x30, x31, x32, x33, x34, x35, x36, x37, x38, x39, x40, x41, x42, x43, x44, x49, x50, x51, x52, x53, forR_eq, forL_eq, forE_eq, idx_eq, x54, x55, x56, x57, x58, x59, x60, x61, x62, x63, x64, x65, x66, x67, x68, x69, x70, x71, x72, x73, x74, x75, x76, x77, x78, x79, x80, x81, x82, x83, x84, x85, x86, x87, x88, x89, x90, x91, x92, yz0, yz1, yz2, yz3, Option.some.injEq, exists_eq_left', exists_eq_left, exists_and_left, V.ref.injEq, V.int.injEq, V.fn.injEq, V.bool.injEq, Ob.lst.injEq, Ob.tup.injEq, decide_eq_true_eq, decide_eq_false_iff_not, Bool.not_eq_true', Bool.not_eq_false', Bool.not_true, Bool.not_false, List.length_map, yz4, yz5, yz6, yz7, yz8, yz9, yz10, yz11, true_and, and_true, reduceCtorEq, Bool.false_eq_true, Bool.true_eq_false, if_true, if_false, false_implies, true_implies, forall_const, and_self, false_and, and_false, or_false, false_or, implies_true, Nat.reduceAdd, Nat.reduceSub, ne_eq, not_true_eq_false, not_false_eq_true, Nat.zero_le, exists_eq', exists_eq, Int.toNat_natCast, AH.set_self, List.cons.injEq]
    rw [List.take_of_length_le (Nat.le_refl _), List.reverse_reverse, limbs_val hB x hx.1]
    exact q _ (.new hc)
end Mine
end
section
open PySem PySem.Calls PySem.W PyProof.Rows
set_option maxRecDepth 100000
namespace Mine
variable {B : Int} {Φ : Phi}
theorem set_get_ne {xs : List Int} {i j : Nat} {y : Int} (h : i ≠ j) : (xs.set i y)[j]? = xs[j]? := List.getElem?_set_ne h
theorem mul_school_ok {n w : Nat} (hn : 2 ≤ n) (hw : WOk w B) {H : AH} {a b : Nat} {x y : Int} {Q : PQ} (ha : IL H a (limbs B x)) (hb : IL H b (limbs B y)) (hx : 0 ≤ x ∧ x < 2 ^ 64) (hy : 0 ≤ y ∧ y < 2 ^ 64) (h : Ret H (limbs B (x * y)) Q) :
    callS theDefs n 21 [.ref a, .ref b, .int w] H Q := by
  refine call_of (by exact o204 hn) rfl rfl ?_
  have ha' : H a = some (.lst ((limbs B x).map V.int)) := ha
  have hb' : H b = some (.lst ((limbs B y).map V.int)) := hb
  have la := len_lim hw.two hx.1 hx.2
  have lb := len_lim hw.two hy.1 hy.2
  have la' : (limbs B x).length ≤ lim := le_lim (by exact o158 la)
  have lb' : (limbs B y).length ≤ lim := le_lim (by exact o158 lb)
  have hB := hw.two
  have wa := limbs_lim hB x hx.1
  have wb := limbs_lim hB y hy.1
  have l1 : 0 + 1 ≤ lim := le_lim (by simp)
  have z1 : -(lim : Int) ≤ ((limbs B x).length : Int) + ((limbs B y).length : Int) := by exact o238
  have z2 : ((limbs B x).length : Int) + ((limbs B y).length : Int) ≤ (lim : Int) := by unfold lim; exact o239 la lb
  have z3 : (((limbs B x).length : Int) + ((limbs B y).length : Int)).toNat = (limbs B x).length + (limbs B y).length := by exact o240
  simp only [x0, x1, x2, x3, x4, x5, x6, x7, x9, x10, x11, x12, x13, x14, x15, x16, x17, x18, x19, x20, x21, x22, x23, x27, x28, x29, x30, x31, x32, x33, x34, x35, x36, x37, x38, x39, x40, x41, x42, x43, x44, x49, x50, x51, x52, x53, forR_eq, forL_eq, forE_eq, idx_eq, x54, x55, x56, x57, x58, x59, x60, x61, x62, x63, x64, x65, x66, x67, x68, x69, x70, x71, x72, x73, x74, x75, x76, x77, x78, x79, x80, x81, x82, x83, x84, x85, x86, x87, x88, x89, x90, x91, x92, yz0, yz1, yz2, yz3, Option.some.injEq, exists_eq_left', exists_eq_left, exists_and_left, V.ref.injEq, V.int.injEq, V.fn.injEq, V.bool.injEq, Ob.lst.injEq, Ob.tup.injEq, decide_eq_true_eq, decide_eq_false_iff_not, Bool.not_eq_true', Bool.not_eq_false', Bool.not_true, Bool.not_false, List.length_map, yz4, yz5, yz6, yz7, yz8, yz9, yz10, yz11, true_and, and_true, reduceCtorEq, Bool.false_eq_true, Bool.true_eq_false, if_true, if_false, false_implies, true_implies, forall_const, and_self, false_and, and_false, or_false, false_or, implies_true, Nat.reduceAdd, Nat.reduceSub, ne_eq, not_true_eq_false, not_false_eq_true, Nat.zero_le, exists_eq', exists_eq, Int.toNat_natCast, AH.set_self, List.cons.injEq, f_mul_school, hw.pow, hw.nn, hw.k, one64, Int.one_mul, l1]
  intro c₁ hc₁
  have s₁ := Sub.new (ob := .lst [V.int 0]) hc₁
  have ha₁ : (H.set c₁ (.lst [V.int 0])) a = some (.lst ((limbs B x).map V.int)) := s₁.il ha
  have hb₁ : (H.set c₁ (.lst [V.int 0])) b = some (.lst ((limbs B y).map V.int)) := s₁.il hb
  simp only [x0, x1, x2, x3, x4, x5, x6, x7, x9, x10, x11, x12, x13, x14, x15, x16, x17, x18, x19, x20, x21, x22, x23, x27, x28, x29, x30, x31, x32, x33, x34, x35, x36, x37, x38, x39, x40, x41, x42, x43, x44, x49, x50, x51, x52, x53, forR_eq, forL_eq, forE_eq, idx_eq, x54, x55, x56, x57, x58, x59, x60, x61, x62, x63, x64, x65, x66, x67, x68, x69, x70, x71, x72, x73, x74, x75, x76, x77, x78, x79, x80, x81, x82, x83, x84, x85, x86, x87, x88, x89, x90, x91, x92, yz0, yz1, yz2, yz3, Option.some.injEq, exists_eq_left', exists_eq_left, exists_and_left, V.ref.injEq, V.int.injEq, V.fn.injEq, V.bool.injEq, Ob.lst.injEq, Ob.tup.injEq, decide_eq_true_eq, decide_eq_false_iff_not, Bool.not_eq_true', Bool.not_eq_false', Bool.not_true, Bool.not_false, List.length_map, yz4, yz5, yz6, yz7, yz8, yz9, yz10, yz11, true_and, and_true, reduceCtorEq, Bool.false_eq_true, Bool.true_eq_false, if_true, if_false, false_implies, true_implies, forall_const, and_self, false_and, and_false, or_false, false_or, implies_true, Nat.reduceAdd, Nat.reduceSub, ne_eq, not_true_eq_false, not_false_eq_true, Nat.zero_le, exists_eq', exists_eq, Int.toNat_natCast, AH.set_self, List.cons.injEq, ha₁, hb₁, la', lb', z1, z2, z3]
  intro c hc₂
  have hc := s₁.none hc₂
  have s₂ := s₁.set (c := c) (ob := .lst (List.replicate ((limbs B x).length + (limbs B y).length) (V.int 0))) hc
  generalize hH₂ : (H.set c₁ (.lst [V.int 0])).set c (.lst (List.replicate ((limbs B x).length + (limbs B y).length) (V.int 0))) = H₂ at s₂ ⊢
  have hf₂ : IL H₂ c (List.replicate ((limbs B x).length + (limbs B y).length) 0) := by rw [← hH₂]; unfold IL; rw [AH.set_self, List.map_replicate]
  have ha₂ : H₂ a = some (.lst ((limbs B x).map V.int)) := s₂.il ha
  refine ⟨(limbs B x).map V.int, by simpa using la', ?_⟩
  obtain ⟨I, hI⟩ : ∃ I : Nat → Loc → AH → Prop, I = fun k l H' => ∃ fs p q r s t, l = [some (.ref a), some (.ref b), some (.int w), some (.ref c), some (.int (B - 1)), p, q, r, s, t] ∧ Sub H H' ∧ IL H' c fs ∧ fs.length = (limbs B x).length + (limbs B y).length ∧ Lim B fs ∧
      val B fs = val B ((limbs B x).take k) * y ∧ (∀ i u, k + (limbs B y).length ≤ i → fs[i]? = some u → u = 0) := ⟨_, rfl⟩
  refine forE_in I (by rw [hI]; exact ⟨_, _, _, _, _, _, rfl, s₂, hf₂, by simp, .zeros (by exact o74 hB) _, by rw [val_replicate]; simp [val], fun i u _ hu => by rw [List.getElem?_replicate] at hu; split at hu <;> cases hu; rfl⟩) (fun m l H' hj => ?_) (fun k l H' e he hj => ?_) fun l H' hj => ?_
  · rw [hI] at hj
    obtain ⟨fs, p, q, r, s, t, rfl, hs, hf, hfl, hL, hv, hz⟩ := hj
    exact hs.il ha
  · rw [hI] at hj
    obtain ⟨fs, p, q, r, s, t, rfl, hs, hf, hfl, hL, hv, hz⟩ := hj
    have hk := (List.getElem?_eq_some_iff.mp he).1
    have be := wa.at he
    have hb'' : H' b = some (.lst ((limbs B y).map V.int)) := hs.il hb
    try simp only [x0, x1, x2, x3, x4, x5, x6, x7, x9, x10, x11, x12, x13, x14, x15, x16, x17, x18, x19, x20, x21, x22, x23, x27, x28, x29, x30, x31, x32, x33, x34, x35, x36, x37, x38, x39, x40, x41, x42, x43, x44, x49, x50, x51, x52, x53, forR_eq, forL_eq, forE_eq, idx_eq, x54, x55, x56, x57, x58, x59, x60, x61, x62, x63, x64, x65, x66, x67, x68, x69, x70, x71, x72, x73, x74, x75, x76, x77, x78, x79, x80, x81, x82, x83, x84, x85, x86, x87, x88, x89, x90, x91, x92, yz0, yz1, yz2, yz3, Option.some.injEq, exists_eq_left', exists_eq_left, exists_and_left, V.ref.injEq, V.int.injEq, V.fn.injEq, V.bool.injEq, Ob.lst.injEq, Ob.tup.injEq, decide_eq_true_eq, decide_eq_false_iff_not, Bool.not_eq_true', Bool.not_eq_false', Bool.not_true, Bool.not_false, List.length_map, yz4, yz5, yz6, yz7, yz8, yz9, yz10, yz11, true_and, and_true, reduceCtorEq, Bool.false_eq_true, Bool.true_eq_false, if_true, if_false, false_implies, true_implies, forall_const, and_self, false_and, and_false, or_false, false_or, implies_true, Nat.reduceAdd, Nat.reduceSub, ne_eq, not_true_eq_false, not_false_eq_true, Nat.zero_le, exists_eq', exists_eq, Int.toNat_natCast, AH.set_self, List.cons.injEq]
    refine ⟨(limbs B y).map V.int, by simpa using lb', ?_⟩
    obtain ⟨J, hJ⟩ : ∃ J : Nat → Loc → AH → Prop, J = fun j l H' => ∃ cr fs' s t, l = [some (.ref a), some (.ref b), some (.int w), some (.ref c), some (.int (B - 1)), some (.int (k : Int)), some (.int e), some (.int cr), s, t] ∧ Sub H H' ∧ IL H' c fs' ∧ fs'.length = (limbs B x).length + (limbs B y).length ∧ Lim B fs' ∧ (0 ≤ cr ∧ cr < B) ∧
        val B fs' + B ^ (k + j) * cr = val B fs + e * val B ((limbs B y).take j) * B ^ k ∧ (∀ i u, k + (limbs B y).length ≤ i → fs'[i]? = some u → u = 0) := ⟨_, rfl⟩
    refine forE_in J (by rw [hJ]; exact ⟨0, fs, _, _, rfl, hs, hf, hfl, hL, by exact o195 hB, by simp [val], hz⟩) (fun m l H' hj => ?_) (fun j l H' d hd hj => ?_) fun l H' hj => ?_
    · rw [hJ] at hj
      obtain ⟨cr, fs', s, t, rfl, hs', hf', hfl', hL', hcr, hv', hz'⟩ := hj
      exact hs'.il hb
    · rw [hJ] at hj
      obtain ⟨cr, fs', s, t, rfl, hs', hf', hfl', hL', hcr, hv', hz'⟩ := hj
      have hjl := (List.getElem?_eq_some_iff.mp hd).1
      have bd := wb.at hd
      have eu := List.getElem?_eq_getElem (l := fs') (i := k + j) (by exact o241 hk hfl' hjl)
      have bu := hL'.at eu
      generalize fs'[k + j] = u at eu bu
      have hfc : H' c = some (.lst (fs'.map V.int)) := hf'
      have hfcl : fs'.length ≤ lim := by unfold lim; exact o242 la lb hfl'
      have m0 : (0 : Int) ≤ (k : Int) + (j : Int) := by exact o243
      have m1 : (k : Int) + (j : Int) < (fs'.length : Int) := by exact o244 hk hfl' hjl
      have m2 : ((k : Int) + (j : Int)).toNat = k + j := by exact o240
      try simp only [x0, x1, x2, x3, x4, x5, x6, x7, x9, x10, x11, x12, x13, x14, x15, x16, x17, x18, x19, x20, x21, x22, x23, x27, x28, x29, x30, x31, x32, x33, x34, x35, x36, x37, x38, x39, x40, x41, x42, x43, x44, x49, x50, x51, x52, x53, forR_eq, forL_eq, forE_eq, idx_eq, x54, x55, x56, x57, x58, x59, x60, x61, x62, x63, x64, x65, x66, x67, x68, x69, x70, x71, x72, x73, x74, x75, x76, x77, x78, x79, x80, x81, x82, x83, x84, x85, x86, x87, x88, x89, x90, x91, x92, yz0, yz1, yz2, yz3, Option.some.injEq, exists_eq_left', exists_eq_left, exists_and_left, V.ref.injEq, V.int.injEq, V.fn.injEq, V.bool.injEq, Ob.lst.injEq, Ob.tup.injEq, decide_eq_true_eq, decide_eq_false_iff_not, Bool.not_eq_true', Bool.not_eq_false', Bool.not_true, Bool.not_false, List.length_map, yz4, yz5, yz6, yz7, yz8, yz9, yz10, yz11, true_and, and_true, reduceCtorEq, Bool.false_eq_true, Bool.true_eq_false, if_true, if_false, false_implies, true_implies, forall_const, and_self, false_and, and_false, or_false, false_or, implies_true, Nat.reduceAdd, Nat.reduceSub, ne_eq, not_true_eq_false, not_false_eq_true, Nat.zero_le, exists_eq', exists_eq, Int.toNat_natCast, AH.set_self, List.cons.injEq]
      refine idx_nat (k + j) hf' hfcl (by exact o245) eu ?_
      simp only [x0, x1, x2, x3, x4, x5, x6, x7, x9, x10, x11, x12, x13, x14, x15, x16, x17, x18, x19, x20, x21, x22, x23, x27, x28, x29, x30, x31, x32, x33, x34, x35, x36, x37, x38, x39, x40, x41, x42, x43, x44, x49, x50, x51, x52, x53, forR_eq, forL_eq, forE_eq, idx_eq, x54, x55, x56, x57, x58, x59, x60, x61, x62, x63, x64, x65, x66, x67, x68, x69, x70, x71, x72, x73, x74, x75, x76, x77, x78, x79, x80, x81, x82, x83, x84, x85, x86, x87, x88, x89, x90, x91, x92, yz0, yz1, yz2, yz3, Option.some.injEq, exists_eq_left', exists_eq_left, exists_and_left, V.ref.injEq, V.int.injEq, V.fn.injEq, V.bool.injEq, Ob.lst.injEq, Ob.tup.injEq, decide_eq_true_eq, decide_eq_false_iff_not, Bool.not_eq_true', Bool.not_eq_false', Bool.not_true, Bool.not_false, List.length_map, yz4, yz5, yz6, yz7, yz8, yz9, yz10, yz11, true_and, and_true, reduceCtorEq, Bool.false_eq_true, Bool.true_eq_false, if_true, if_false, false_implies, true_implies, forall_const, and_self, false_and, and_false, or_false, false_or, implies_true, Nat.reduceAdd, Nat.reduceSub, ne_eq, not_true_eq_false, not_false_eq_true, Nat.zero_le, exists_eq', exists_eq, Int.toNat_natCast, AH.set_self, List.cons.injEq, hw.sm be, hw.sm bd, hfc, hfcl, m0, m1, m2, band_mask hw, hw.pow, hw.nn]
      have mb := mul_bound be bd
      have eb := ediv_lim (B := B) (x := cr + (u + e * d)) (by exact o74 hB) (by exact o184 hcr.1 bu.1 mb.1) (by exact o246 hcr.2 bu.2 mb.2)
      rw [hJ]
      refine ⟨(cr + (u + e * d)) / B, fs'.set (k + j) ((cr + (u + e * d)) % B), _, _, rfl, hs'.set hc, by simpa [List.map_set] using il_set (H := H') (c := c) (xs := fs'.set (k + j) ((cr + (u + e * d)) % B)), by simpa using hfl', hL'.set (emod_lim (by exact o74 hB) _) _, eb, ?_, fun i v hi hiv => ?_⟩
      · rw [val_set _ eu, val_next hd, show k + (j + 1) = k + j + 1 by exact o131, Int.pow_succ]
        have := Int.emod_add_mul_ediv (cr + (u + e * d)) B
        generalize (cr + (u + e * d)) % B = r' at *
        generalize (cr + (u + e * d)) / B = q' at *
        have e1 : B ^ (k + j) * (r' + B * q') = B ^ (k + j) * (cr + (u + e * d)) := by rw [this]
        have e2 : B ^ (k + j) = B ^ k * B ^ j := Int.pow_add ..
        grind
      · rw [List.getElem?_set_ne (by exact o247 hjl hi)] at hiv
        exact hz' i v hi hiv
    · rw [hJ] at hj
      obtain ⟨cr, fs', s, t, rfl, hs', hf', hfl', hL', hcr, hv', hz'⟩ := hj
      rw [List.take_of_length_le (Nat.le_refl _), limbs_val hB y hy.1] at hv'
      have eu := List.getElem?_eq_getElem (l := fs') (i := k + (limbs B y).length) (by exact o248 hk hfl')
      have hu0 := hz' _ _ (Nat.le_refl _) eu
      rw [hu0] at eu
      have hfc : H' c = some (.lst (fs'.map V.int)) := hf'
      have hbc : H' b = some (.lst ((limbs B y).map V.int)) := hs'.il hb
      have hfcl : fs'.length ≤ lim := by unfold lim; exact o242 la lb hfl'
      have m0 : (0 : Int) ≤ (k : Int) + ((limbs B y).length : Int) := by exact o243
      have m1 : (k : Int) + ((limbs B y).length : Int) < (fs'.length : Int) := by exact o249 hk hfl'
      have m2 : ((k : Int) + ((limbs B y).length : Int)).toNat = k + (limbs B y).length := by exact o240
      simp only [x0, x1, x2, x3, x4, x5, x6, x7, x9, x10, x11, x12, x13, x14, x15, x16, x17, x18, x19, x20, x21, x22, x23, x27, x28, x29, x30, x31, x32, x33, x34, x35, x36, x37, x38, x39, x40, x41, x42, x43, x44, x49, x50, x51, x52, x53, forR_eq, forL_eq, forE_eq, idx_eq, x54, x55, x56, x57, x58, x59, x60, x61, x62, x63, x64, x65, x66, x67, x68, x69, x70, x71, x72, x73, x74, x75, x76, x77, x78, x79, x80, x81, x82, x83, x84, x85, x86, x87, x88, x89, x90, x91, x92, yz0, yz1, yz2, yz3, Option.some.injEq, exists_eq_left', exists_eq_left, exists_and_left, V.ref.injEq, V.int.injEq, V.fn.injEq, V.bool.injEq, Ob.lst.injEq, Ob.tup.injEq, decide_eq_true_eq, decide_eq_false_iff_not, Bool.not_eq_true', Bool.not_eq_false', Bool.not_true, Bool.not_false, List.length_map, yz4, yz5, yz6, yz7, yz8, yz9, yz10, yz11, true_and, and_true, reduceCtorEq, Bool.false_eq_true, Bool.true_eq_false, if_true, if_false, false_implies, true_implies, forall_const, and_self, false_and, and_false, or_false, false_or, implies_true, Nat.reduceAdd, Nat.reduceSub, ne_eq, not_true_eq_false, not_false_eq_true, Nat.zero_le, exists_eq', exists_eq, Int.toNat_natCast, AH.set_self, List.cons.injEq, hbc, lb', hfc, hfcl, m0, m1, m2]
      rw [hI]
      refine ⟨fs'.set (k + (limbs B y).length) cr, _, _, _, _, _, rfl, hs'.set hc, by simpa [List.map_set] using il_set (H := H') (c := c) (xs := fs'.set (k + (limbs B y).length) cr), by simpa using hfl', hL'.set hcr _, ?_, fun i v hi hiv => ?_⟩
      · rw [val_set _ eu, val_next he]
        grind
      · rw [List.getElem?_set_ne (by exact o250 hi)] at hiv
        exact hz' i v (by exact o251 hi) hiv
  · rw [hI] at hj
    obtain ⟨fs, p, q, r, s, t, rfl, hs, hf, hfl, hL, hv, hz⟩ := hj
    rw [List.take_of_length_le (Nat.le_refl _), limbs_val hB x hx.1] at hv
    try simp only [x0, x1, x2, x3, x4, x5, x6, x7, x9, x10, x11, x12, x13, x14, x15, x16, x17, x18, x19, x20, x21, x22, x23, x27, x28, x29, x30, x31, x32, x33, x34, x35, x36, x37, x38, x39, x40, x41, x42, x43, x44, x49, x50, x51, x52, x53, forR_eq, forL_eq, forE_eq, idx_eq, x54, x55, x56, x57, x58, x59, x60, x61, x62, x63, x64, x65, x66, x67, x68, x69, x70, x71, x72, x73, x74, x75, x76, x77, x78, x79, x80, x81, x82, x83, x84, x85, x86, x87, x88, x89, x90, x91, x92, yz0, yz1, yz2, yz3, Option.some.injEq, exists_eq_left', exists_eq_left, exists_and_left, V.ref.injEq, V.int.injEq, V.fn.injEq, V.bool.injEq, Ob.lst.injEq, Ob.tup.injEq, decide_eq_true_eq, decide_eq_false_iff_not, Bool.not_eq_true', Bool.not_eq_false', Bool.not_true, Bool.not_false, List.length_map, yz4, yz5, yz6, yz7, yz8, yz9, yz10, yz11, true_and, and_true, reduceCtorEq, Bool.false_eq_true, Bool.true_eq_false, if_true, if_false, false_implies, true_implies, forall_const, and_self, false_and, and_false, or_false, false_or, implies_true, Nat.reduceAdd, Nat.reduceSub, ne_eq, not_true_eq_false, not_false_eq_true, Nat.zero_le, exists_eq', exists_eq, Int.toNat_natCast, AH.set_self, List.cons.injEq]
    refine normal_ok (by exact o218 hn) hf (by unfold lim; exact o242 la lb hfl) fun c' H'' hc' hs' hf'' => ?_
    refine h c' H'' (hs.none hc') (hs.trans hs') ?_
    rw [← hv, ← norm_limbs hB hL]
    exact hf''
end Mine
end
section
open PySem PySem.Calls PySem.W PyProof.Rows
set_option maxRecDepth 100000
namespace Mine
variable {B : Int} {Φ : Phi}
theorem limbs_small (hB : 2 ≤ B) {r : Int} (h : 0 < r ∧ r < B) : limbs B r = [r] := by
  rw [limbs_pos h.1 hB, Int.emod_eq_of_lt (by exact o96 h.1) h.2, Int.ediv_eq_zero_of_lt (by exact o96 h.1) h.2, limbs_zero]
noncomputable def RetT (H : AH) (xs ys : List Int) (Q : PQ) : Prop := ∀ c c₁ c₂ H', H c = none → H c₁ = none → H c₂ = none → Sub H H' → H' c = some (.tup [.ref c₁, .ref c₂]) → IL H' c₁ xs → IL H' c₂ ys → Q (.ref c) H'
theorem divrem_small_ok {n w : Nat} (hn : 3 ≤ n) (hw : WOk w B) {H : AH} {a b : Nat} {x d : Int} {Q : PQ} (ha : IL H a (limbs B x)) (hb : IL H b [d]) (hx : 0 ≤ x ∧ x < 2 ^ 64) (hd : 0 < d ∧ d < B) (h : RetT H (limbs B (x / d)) (limbs B (x % d)) Q) :
    callS theDefs n 22 [.ref a, .ref b, .int w] H Q := by
  refine call_of (by exact o252 hn) rfl rfl ?_
  have l1 : ([d] : List Int).length ≤ lim := le_lim (by simp)
  have hrm := emod_lim hd.1 x
  have l2 : 0 + 1 ≤ lim := le_lim (by simp)
  have l3 : 0 + 1 + 1 ≤ lim := le_lim (by simp)
  simp only [x0, x1, x2, x3, x4, x5, x6, x7, x9, x10, x11, x12, x13, x14, x15, x16, x17, x18, x19, x20, x21, x22, x23, x27, x28, x29, x30, x31, x32, x33, x34, x35, x36, x37, x38, x39, x40, x41, x42, x43, x44, x49, x50, x51, x52, x53, forR_eq, forL_eq, forE_eq, idx_eq, x54, x55, x56, x57, x58, x59, x60, x61, x62, x63, x64, x65, x66, x67, x68, x69, x70, x71, x72, x73, x74, x75, x76, x77, x78, x79, x80, x81, x82, x83, x84, x85, x86, x87, x88, x89, x90, x91, x92, yz0, yz1, yz2, yz3, Option.some.injEq, exists_eq_left', exists_eq_left, exists_and_left, V.ref.injEq, V.int.injEq, V.fn.injEq, V.bool.injEq, Ob.lst.injEq, Ob.tup.injEq, decide_eq_true_eq, decide_eq_false_iff_not, Bool.not_eq_true', Bool.not_eq_false', Bool.not_true, Bool.not_false, List.length_map, yz4, yz5, yz6, yz7, yz8, yz9, yz10, yz11, true_and, and_true, reduceCtorEq, Bool.false_eq_true, Bool.true_eq_false, if_true, if_false, false_implies, true_implies, forall_const, and_self, false_and, and_false, or_false, false_or, implies_true, Nat.reduceAdd, Nat.reduceSub, ne_eq, not_true_eq_false, not_false_eq_true, Nat.zero_le, exists_eq', exists_eq, Int.toNat_natCast, AH.set_self, List.cons.injEq, f_divrem_small]
  refine idx_nat 0 hb l1 rfl rfl ?_
  refine divrem_limb_ok (by exact o253 hn) hw ha hx hd fun c c' H₁ hc hc' hs ht hq => ?_
  simp only [x0, x1, x2, x3, x4, x5, x6, x7, x9, x10, x11, x12, x13, x14, x15, x16, x17, x18, x19, x20, x21, x22, x23, x27, x28, x29, x30, x31, x32, x33, x34, x35, x36, x37, x38, x39, x40, x41, x42, x43, x44, x49, x50, x51, x52, x53, forR_eq, forL_eq, forE_eq, idx_eq, x54, x55, x56, x57, x58, x59, x60, x61, x62, x63, x64, x65, x66, x67, x68, x69, x70, x71, x72, x73, x74, x75, x76, x77, x78, x79, x80, x81, x82, x83, x84, x85, x86, x87, x88, x89, x90, x91, x92, yz0, yz1, yz2, yz3, Option.some.injEq, exists_eq_left', exists_eq_left, exists_and_left, V.ref.injEq, V.int.injEq, V.fn.injEq, V.bool.injEq, Ob.lst.injEq, Ob.tup.injEq, decide_eq_true_eq, decide_eq_false_iff_not, Bool.not_eq_true', Bool.not_eq_false', Bool.not_true, Bool.not_false, List.length_map, yz4, yz5, yz6, yz7, yz8, yz9, yz10, yz11, true_and, and_true, reduceCtorEq, Bool.false_eq_true, Bool.true_eq_false, if_true, if_false, false_implies, true_implies, forall_const, and_self, false_and, and_false, or_false, false_or, implies_true, Nat.reduceAdd, Nat.reduceSub, ne_eq, not_true_eq_false, not_false_eq_true, Nat.zero_le, exists_eq', exists_eq, Int.toNat_natCast, AH.set_self, List.cons.injEq, ht, l2, l3]
  refine ⟨fun h0 c₂ hc₂ c₃ hc₃ => ?_, fun h0 c₂ hc₂ c₃ hc₃ => ?_⟩
  · have s₂ := hs.set (c := c₂) (ob := .lst [V.int (x % d)]) (hs.none hc₂)
    have s₃ := s₂.set (c := c₃) (ob := .tup [V.ref c', V.ref c₂]) (s₂.none hc₃)
    refine h c₃ c' c₂ _ (s₂.none hc₃) hc' (hs.none hc₂) s₃ AH.set_self ?_ ?_
    · exact ((Sub.new hc₃).il ((Sub.new hc₂).il hq))
    · rw [limbs_small hw.two (by exact o227 hd.2 hrm.2 h0)]
      exact ((Sub.new hc₃).il (il_set (xs := [x % d])))
  · have s₂ := hs.set (c := c₂) (ob := .lst []) (hs.none hc₂)
    have s₃ := s₂.set (c := c₃) (ob := .tup [V.ref c', V.ref c₂]) (s₂.none hc₃)
    refine h c₃ c' c₂ _ (s₂.none hc₃) hc' (hs.none hc₂) s₃ AH.set_self ?_ ?_
    · exact ((Sub.new hc₃).il ((Sub.new hc₂).il hq))
    · rw [show x % d = 0 by exact o151 hrm.1 h0, limbs_zero]
      exact ((Sub.new hc₃).il (il_set (xs := [])))
theorem guess_ok {n w : Nat} (hn : 1 ≤ n) (hw : WOk w B) {H : AH} {a : Nat} {t₀ t₁ t₂ f s : Int} {Q : PQ} (ha : IL H a [t₀, t₁, t₂]) (h0 : 0 ≤ t₀ ∧ t₀ < B) (h1 : 0 ≤ t₁ ∧ t₁ < B) (h2 : 0 ≤ t₂ ∧ t₂ < B) (hf : 0 < f ∧ f < B) (hs : 0 ≤ s ∧ s < B)
    (h : ∀ g, 0 ≤ g → g ≤ B - 1 → g * (f * B + s) ≤ (t₂ * B + t₁) * B + t₀ → (∀ q, 0 ≤ q → q ≤ B - 1 → q * (f * B + s) ≤ (t₂ * B + t₁) * B + t₀ → q ≤ g) → Q (.int g) H) :
    callS theDefs n 23 [.ref a, .int f, .int s, .int w] H Q := by
  refine call_of hn rfl rfl ?_
  have hB := hw.two
  have hBl := hw.le
  have l1 : ([t₀, t₁, t₂] : List Int).length ≤ lim := le_lim (by simp)
  have f64 : f < 2 ^ 64 := by exact o205 hf.2 hBl.2
  have mb : 0 ≤ t₂ * B := Int.mul_nonneg h2.1 (by exact o213 hBl.1)
  simp only [x0, x1, x2, x3, x4, x5, x6, x7, x9, x10, x11, x12, x13, x14, x15, x16, x17, x18, x19, x20, x21, x22, x23, x27, x28, x29, x30, x31, x32, x33, x34, x35, x36, x37, x38, x39, x40, x41, x42, x43, x44, x49, x50, x51, x52, x53, forR_eq, forL_eq, forE_eq, idx_eq, x54, x55, x56, x57, x58, x59, x60, x61, x62, x63, x64, x65, x66, x67, x68, x69, x70, x71, x72, x73, x74, x75, x76, x77, x78, x79, x80, x81, x82, x83, x84, x85, x86, x87, x88, x89, x90, x91, x92, yz0, yz1, yz2, yz3, Option.some.injEq, exists_eq_left', exists_eq_left, exists_and_left, V.ref.injEq, V.int.injEq, V.fn.injEq, V.bool.injEq, Ob.lst.injEq, Ob.tup.injEq, decide_eq_true_eq, decide_eq_false_iff_not, Bool.not_eq_true', Bool.not_eq_false', Bool.not_true, Bool.not_false, List.length_map, yz4, yz5, yz6, yz7, yz8, yz9, yz10, yz11, true_and, and_true, reduceCtorEq, Bool.false_eq_true, Bool.true_eq_false, if_true, if_false, false_implies, true_implies, forall_const, and_self, false_and, and_false, or_false, false_or, implies_true, Nat.reduceAdd, Nat.reduceSub, ne_eq, not_true_eq_false, not_false_eq_true, Nat.zero_le, exists_eq', exists_eq, Int.toNat_natCast, AH.set_self, List.cons.injEq, f_guessed_limb, hw.pow, hw.nn, hw.k, one64, Int.one_mul]
  refine idx_nat 2 ha l1 rfl rfl ?_
  simp only [x0, x1, x2, x3, x4, x5, x6, x7, x9, x10, x11, x12, x13, x14, x15, x16, x17, x18, x19, x20, x21, x22, x23, x27, x28, x29, x30, x31, x32, x33, x34, x35, x36, x37, x38, x39, x40, x41, x42, x43, x44, x49, x50, x51, x52, x53, forR_eq, forL_eq, forE_eq, idx_eq, x54, x55, x56, x57, x58, x59, x60, x61, x62, x63, x64, x65, x66, x67, x68, x69, x70, x71, x72, x73, x74, x75, x76, x77, x78, x79, x80, x81, x82, x83, x84, x85, x86, x87, x88, x89, x90, x91, x92, yz0, yz1, yz2, yz3, Option.some.injEq, exists_eq_left', exists_eq_left, exists_and_left, V.ref.injEq, V.int.injEq, V.fn.injEq, V.bool.injEq, Ob.lst.injEq, Ob.tup.injEq, decide_eq_true_eq, decide_eq_false_iff_not, Bool.not_eq_true', Bool.not_eq_false', Bool.not_true, Bool.not_false, List.length_map, yz4, yz5, yz6, yz7, yz8, yz9, yz10, yz11, true_and, and_true, reduceCtorEq, Bool.false_eq_true, Bool.true_eq_false, if_true, if_false, false_implies, true_implies, forall_const, and_self, false_and, and_false, or_false, false_or, implies_true, Nat.reduceAdd, Nat.reduceSub, ne_eq, not_true_eq_false, not_false_eq_true, Nat.zero_le, exists_eq', exists_eq, Int.toNat_natCast, AH.set_self, List.cons.injEq, hw.pow, hw.nn, hw.k, hw.sm h2]
  refine idx_nat 1 ha l1 rfl rfl ?_
  generalize hhi : t₂ * B + t₁ = hi at *
  have hhi' : Builtin.bitOr (t₂ * B) t₁ = hi := by rw [hw.bor h2.1 h1, hhi]
  have hhi0 : 0 ≤ hi := by exact o254 h1.1 mb hhi
  have hm0 : 0 ≤ hi / f := Int.ediv_nonneg hhi0 (by exact o96 hf.1)
  obtain ⟨L, hL⟩ : ∃ L, L = (if B - 1 < hi / f then B - 1 else hi / f) := ⟨_, rfl⟩
  have hL0 : 0 ≤ L ∧ L ≤ B - 1 := by rw [hL]; split <;> (first | exact o255 hBl.1 | exact o256 hm0 (by assumption))
  simp only [x0, x1, x2, x3, x4, x5, x6, x7, x9, x10, x11, x12, x13, x14, x15, x16, x17, x18, x19, x20, x21, x22, x23, x27, x28, x29, x30, x31, x32, x33, x34, x35, x36, x37, x38, x39, x40, x41, x42, x43, x44, x49, x50, x51, x52, x53, forR_eq, forL_eq, forE_eq, idx_eq, x54, x55, x56, x57, x58, x59, x60, x61, x62, x63, x64, x65, x66, x67, x68, x69, x70, x71, x72, x73, x74, x75, x76, x77, x78, x79, x80, x81, x82, x83, x84, x85, x86, x87, x88, x89, x90, x91, x92, yz0, yz1, yz2, yz3, Option.some.injEq, exists_eq_left', exists_eq_left, exists_and_left, V.ref.injEq, V.int.injEq, V.fn.injEq, V.bool.injEq, Ob.lst.injEq, Ob.tup.injEq, decide_eq_true_eq, decide_eq_false_iff_not, Bool.not_eq_true', Bool.not_eq_false', Bool.not_true, Bool.not_false, List.length_map, yz4, yz5, yz6, yz7, yz8, yz9, yz10, yz11, true_and, and_true, reduceCtorEq, Bool.false_eq_true, Bool.true_eq_false, if_true, if_false, false_implies, true_implies, forall_const, and_self, false_and, and_false, or_false, false_or, implies_true, Nat.reduceAdd, Nat.reduceSub, ne_eq, not_true_eq_false, not_false_eq_true, Nat.zero_le, exists_eq', exists_eq, Int.toNat_natCast, AH.set_self, List.cons.injEq, hhi', hf.1, f64, ← hL, hw.sm (x := L) (by omega), hw.sm (x := f) (by exact o173 hf.1 hf.2)]
  have hLf : L * f ≤ hi := by
    have := Int.ediv_mul_le hi (show f ≠ 0 by exact o7 hf.1)
    have := Int.mul_le_mul_of_nonneg_right (show L ≤ hi / f by rw [hL]; split <;> (first | exact o258 (by assumption) | exact o259)) (show 0 ≤ f by exact o96 hf.1)
    exact o176 (by assumption) this
  have hup : ∀ q, 0 ≤ q → q ≤ B - 1 → q * (f * B + s) ≤ hi * B + t₀ → q ≤ L := fun q q0 q1 q2 => by
    have e : q * (f * B + s) = (q * f) * B + q * s := by grind
    have p : 0 ≤ q * s := Int.mul_nonneg q0 hs.1
    have : (q * f) * B < (hi + 1) * B := by have : (hi + 1) * B = hi * B + B := by grind
                                            exact o260 h0.2 q2 e p this
    have := Int.lt_of_mul_lt_mul_right this (show 0 ≤ B by exact o213 hBl.1)
    have := (Int.le_ediv_iff_mul_le hf.1).mpr (show q * f ≤ hi by exact o261 this)
    rw [hL]; split <;> (first | exact o262 q1 | exact o263 this)
  obtain ⟨I, hI⟩ : ∃ I : Nat → Loc → AH → Prop, I = fun k l H' => ∃ L R, l = [some (.ref a), some (.int f), some (.int s), some (.int w), some (.int hi), some (.int B), some (.int L), some (.int R)] ∧ H = H' ∧ L.toNat = k ∧ 0 ≤ L ∧ L ≤ B - 1 ∧ 0 ≤ R ∧ R = hi - L * f ∧
      ∀ q, 0 ≤ q → q ≤ B - 1 → q * (f * B + s) ≤ hi * B + t₀ → q ≤ L := ⟨_, rfl⟩
  refine whl_in I L.toNat (by rw [hI]; exact ⟨L, _, rfl, rfl, rfl, hL0.1, hL0.2, by exact o264 hLf, rfl, hup⟩) fun k l H' hk => ?_
  rw [hI] at hk
  obtain ⟨L, R, rfl, rfl, rfl, hL0, hL1, hR0, hR, hq⟩ := hk
  have key : (B ≤ R ∨ L * s ≤ R * B + t₀) → Q (.int L) H := fun hor => by
    refine h L hL0 hL1 ?_ hq
    have e : L * (f * B + s) = (L * f) * B + L * s := by grind
    have e2 : (L * f) * B = hi * B - R * B := by rw [hR]; grind
    have e3 : L * s ≤ R * B + t₀ := by
      rcases hor with hor | hor
      · have := (mul_bound (B := B) (a := L) (b := s) (by exact o265 hL0 hL1) hs).2
        have := Int.mul_le_mul_of_nonneg_right hor (show 0 ≤ B by exact o213 hBl.1)
        exact o266 h0.1 h0.2 (by assumption) this
      · exact hor
    exact o267 e e2 e3
  try simp only [x0, x1, x2, x3, x4, x5, x6, x7, x9, x10, x11, x12, x13, x14, x15, x16, x17, x18, x19, x20, x21, x22, x23, x27, x28, x29, x30, x31, x32, x33, x34, x35, x36, x37, x38, x39, x40, x41, x42, x43, x44, x49, x50, x51, x52, x53, forR_eq, forL_eq, forE_eq, idx_eq, x54, x55, x56, x57, x58, x59, x60, x61, x62, x63, x64, x65, x66, x67, x68, x69, x70, x71, x72, x73, x74, x75, x76, x77, x78, x79, x80, x81, x82, x83, x84, x85, x86, x87, x88, x89, x90, x91, x92, yz0, yz1, yz2, yz3, Option.some.injEq, exists_eq_left', exists_eq_left, exists_and_left, V.ref.injEq, V.int.injEq, V.fn.injEq, V.bool.injEq, Ob.lst.injEq, Ob.tup.injEq, decide_eq_true_eq, decide_eq_false_iff_not, Bool.not_eq_true', Bool.not_eq_false', Bool.not_true, Bool.not_false, List.length_map, yz4, yz5, yz6, yz7, yz8, yz9, yz10, yz11, true_and, and_true, reduceCtorEq, Bool.false_eq_true, Bool.true_eq_false, if_true, if_false, false_implies, true_implies, forall_const, and_self, false_and, and_false, or_false, false_or, implies_true, Nat.reduceAdd, Nat.reduceSub, ne_eq, not_true_eq_false, not_false_eq_true, Nat.zero_le, exists_eq', exists_eq, Int.toNat_natCast, AH.set_self, List.cons.injEq]
  refine ⟨fun hRB => key (.inl (by exact o268 hRB)), fun hRB => ?_⟩
  simp only [x0, x1, x2, x3, x4, x5, x6, x7, x9, x10, x11, x12, x13, x14, x15, x16, x17, x18, x19, x20, x21, x22, x23, x27, x28, x29, x30, x31, x32, x33, x34, x35, x36, x37, x38, x39, x40, x41, x42, x43, x44, x49, x50, x51, x52, x53, forR_eq, forL_eq, forE_eq, idx_eq, x54, x55, x56, x57, x58, x59, x60, x61, x62, x63, x64, x65, x66, x67, x68, x69, x70, x71, x72, x73, x74, x75, x76, x77, x78, x79, x80, x81, x82, x83, x84, x85, x86, x87, x88, x89, x90, x91, x92, yz0, yz1, yz2, yz3, Option.some.injEq, exists_eq_left', exists_eq_left, exists_and_left, V.ref.injEq, V.int.injEq, V.fn.injEq, V.bool.injEq, Ob.lst.injEq, Ob.tup.injEq, decide_eq_true_eq, decide_eq_false_iff_not, Bool.not_eq_true', Bool.not_eq_false', Bool.not_true, Bool.not_false, List.length_map, yz4, yz5, yz6, yz7, yz8, yz9, yz10, yz11, true_and, and_true, reduceCtorEq, Bool.false_eq_true, Bool.true_eq_false, if_true, if_false, false_implies, true_implies, forall_const, and_self, false_and, and_false, or_false, false_or, implies_true, Nat.reduceAdd, Nat.reduceSub, ne_eq, not_true_eq_false, not_false_eq_true, Nat.zero_le, exists_eq', exists_eq, Int.toNat_natCast, AH.set_self, List.cons.injEq, hw.sm (x := L) (by exact o265 hL0 hL1), hw.sm hs, hw.sm (x := R) ⟨hR0, hRB⟩, hw.pow, hw.nn, hw.k]
  refine idx_nat 0 ha l1 rfl rfl ?_
  simp only [x0, x1, x2, x3, x4, x5, x6, x7, x9, x10, x11, x12, x13, x14, x15, x16, x17, x18, x19, x20, x21, x22, x23, x27, x28, x29, x30, x31, x32, x33, x34, x35, x36, x37, x38, x39, x40, x41, x42, x43, x44, x49, x50, x51, x52, x53, forR_eq, forL_eq, forE_eq, idx_eq, x54, x55, x56, x57, x58, x59, x60, x61, x62, x63, x64, x65, x66, x67, x68, x69, x70, x71, x72, x73, x74, x75, x76, x77, x78, x79, x80, x81, x82, x83, x84, x85, x86, x87, x88, x89, x90, x91, x92, yz0, yz1, yz2, yz3, Option.some.injEq, exists_eq_left', exists_eq_left, exists_and_left, V.ref.injEq, V.int.injEq, V.fn.injEq, V.bool.injEq, Ob.lst.injEq, Ob.tup.injEq, decide_eq_true_eq, decide_eq_false_iff_not, Bool.not_eq_true', Bool.not_eq_false', Bool.not_true, Bool.not_false, List.length_map, yz4, yz5, yz6, yz7, yz8, yz9, yz10, yz11, true_and, and_true, reduceCtorEq, Bool.false_eq_true, Bool.true_eq_false, if_true, if_false, false_implies, true_implies, forall_const, and_self, false_and, and_false, or_false, false_or, implies_true, Nat.reduceAdd, Nat.reduceSub, ne_eq, not_true_eq_false, not_false_eq_true, Nat.zero_le, exists_eq', exists_eq, Int.toNat_natCast, AH.set_self, List.cons.injEq, hw.bor hR0 h0]
  refine ⟨fun hgt => ?_, fun hgt => key (.inr (by exact o269 hgt))⟩
  have hlt : ∀ q, 0 ≤ q → q ≤ B - 1 → q * (f * B + s) ≤ hi * B + t₀ → q ≤ L - 1 := fun q q0 q1 q2 => by
    rcases Int.lt_or_le q L with z | z
    · exact o69 z
    · have hD : 0 ≤ f * B + s := by have := Int.mul_nonneg (show 0 ≤ f by exact o96 hf.1) (show 0 ≤ B by exact o213 hBl.1); exact o214 hs.1 this
      have := Int.mul_le_mul_of_nonneg_right z hD
      have e : L * (f * B + s) = (L * f) * B + L * s := by grind
      have e2 : (L * f) * B = hi * B - R * B := by rw [hR]; grind
      exact o270 hgt q2 this e e2
  have h1L := hlt 0 (by exact o271) (by exact o272 hBl.1) (by have : 0 ≤ hi * B := Int.mul_nonneg hhi0 (by exact o213 hBl.1); exact o273 h0.1 this)
  refine ⟨(L - 1).toNat, by exact o274 h1L, ?_⟩
  rw [hI]
  refine ⟨L - 1, R + f, rfl, rfl, rfl, by exact o275 h1L, by exact o276 hL1, by exact o277 hf.1 hR0, ?_, hlt⟩
  rw [hR]; grind
end Mine
end
section
open PySem PySem.Calls PySem.W PyProof.Rows
set_option maxRecDepth 100000
namespace Mine
variable {B : Int} {Φ : Phi}
noncomputable def SubBut (r : Nat) (H H' : AH) : Prop := ∀ b ob, b ≠ r → H b = some ob → H' b = some ob
theorem SubBut.set {r : Nat} {H H' : AH} {ob : Ob} (h : SubBut r H H') : SubBut r H (H'.set r ob) := fun b ob' hb e => by rw [AH.set_ne hb]; exact h b ob' hb e
theorem SubBut.il {r c : Nat} {H H' : AH} {xs : List Int} (h : SubBut r H H') (hc : c ≠ r) (e : IL H c xs) : IL H' c xs := h c _ hc e
theorem Sub.but {H₀ H H' : AH} {r : Nat} (a : Sub H₀ H) (hr : H₀ r = Option.none) (b : SubBut r H H') : Sub H₀ H' := fun c ob e => b c ob (fun q => by rw [q, hr] at e; cases e) (a c ob e)
theorem take_set_of_le {xs : List Int} {i j : Nat} {y : Int} (h : j ≤ i) : (xs.set i y).take j = xs.take j := by
  rw [List.take_set, List.set_eq_of_length_le]
  rw [List.length_take]; exact o278 h
theorem drop_set_lt {xs : List Int} {i j : Nat} {y : Int} (h : i < j) : (xs.set i y).drop j = xs.drop j := List.drop_set_of_lt h
theorem get_drop {xs ys : List Int} {k i : Nat} (h : xs.drop k = ys.drop k) (hi : k ≤ i) : xs[i]? = ys[i]? := by
  have := congrArg (·[i - k]?) h
  simpa [List.getElem?_drop, show k + (i - k) = i by exact o62 hi] using this
theorem take_away_ok {n w : Nat} (hn : 1 ≤ n) (hw : WOk w B) {H : AH} {r b at' : Nat} {rs ys : List Int} {g : Int} {Q : PQ} (hr : IL H r rs) (hb : IL H b ys) (hrb : b ≠ r) (hrs : Lim B rs) (hys : Lim B ys) (hg : 0 ≤ g ∧ g < B) (hl : at' + ys.length < rs.length) (hll : rs.length ≤ 10000)
    (h : ∀ o rs' H', o = 0 ∨ o = 1 → SubBut r H H' → IL H' r rs' → rs'.length = rs.length → Lim B rs' → rs'.take at' = rs.take at' → rs'.drop (at' + ys.length + 1) = rs.drop (at' + ys.length + 1) →
      val B rs' = val B rs - g * val B ys * B ^ at' + o * B ^ (at' + ys.length + 1) → Q (.int o) H') :
    callS theDefs n 24 [.ref r, .ref b, .int g, .int (at' : Int), .int w] H Q := by
  refine call_of hn rfl rfl ?_
  have hB := hw.two
  have hBl := hw.le
  have b0 : 0 < B := by exact o210 hBl.1
  have b64 : B < 2 ^ 64 := by exact o279 hBl.2
  have lb : ys.length ≤ lim := le_lim (by exact o280 hl hll)
  have hb' : H b = some (.lst (ys.map V.int)) := hb
  simp only [x0, x1, x2, x3, x4, x5, x6, x7, x9, x10, x11, x12, x13, x14, x15, x16, x17, x18, x19, x20, x21, x22, x23, x27, x28, x29, x30, x31, x32, x33, x34, x35, x36, x37, x38, x39, x40, x41, x42, x43, x44, x49, x50, x51, x52, x53, forR_eq, forL_eq, forE_eq, idx_eq, x54, x55, x56, x57, x58, x59, x60, x61, x62, x63, x64, x65, x66, x67, x68, x69, x70, x71, x72, x73, x74, x75, x76, x77, x78, x79, x80, x81, x82, x83, x84, x85, x86, x87, x88, x89, x90, x91, x92, yz0, yz1, yz2, yz3, Option.some.injEq, exists_eq_left', exists_eq_left, exists_and_left, V.ref.injEq, V.int.injEq, V.fn.injEq, V.bool.injEq, Ob.lst.injEq, Ob.tup.injEq, decide_eq_true_eq, decide_eq_false_iff_not, Bool.not_eq_true', Bool.not_eq_false', Bool.not_true, Bool.not_false, List.length_map, yz4, yz5, yz6, yz7, yz8, yz9, yz10, yz11, true_and, and_true, reduceCtorEq, Bool.false_eq_true, Bool.true_eq_false, if_true, if_false, false_implies, true_implies, forall_const, and_self, false_and, and_false, or_false, false_or, implies_true, Nat.reduceAdd, Nat.reduceSub, ne_eq, not_true_eq_false, not_false_eq_true, Nat.zero_le, exists_eq', exists_eq, Int.toNat_natCast, AH.set_self, List.cons.injEq, f_take_away, hw.pow, hw.nn, hw.k, one64, Int.one_mul]
  refine ⟨ys.map V.int, by simpa using lb, ?_⟩
  obtain ⟨J, hJ⟩ : ∃ J : Nat → Loc → AH → Prop, J = fun j l H' => ∃ cr rs' s t u, l = [some (.ref r), some (.ref b), some (.int g), some (.int (at' : Int)), some (.int w), some (.int cr), some (.int B), s, t, u] ∧ SubBut r H H' ∧ IL H' r rs' ∧ rs'.length = rs.length ∧ Lim B rs' ∧ (0 ≤ cr ∧ cr ≤ B) ∧
      val B rs' = val B rs - g * val B (ys.take j) * B ^ at' + cr * B ^ (at' + j) ∧ rs'.take at' = rs.take at' ∧ rs'.drop (at' + j) = rs.drop (at' + j) := ⟨_, rfl⟩
  refine forE_in J (by rw [hJ]; exact ⟨0, rs, _, _, _, rfl, fun _ _ _ e => e, hr, rfl, hrs, by exact o281 hBl.1, by simp [val], rfl, rfl⟩) (fun m l H' hj => ?_) (fun j l H' d hd hj => ?_) fun l H' hj => ?_
  · rw [hJ] at hj
    obtain ⟨cr, rs', s, t, u, rfl, hs, hf, hlen, hL, hcr, hv, htk, hdr⟩ := hj
    exact hs.il hrb hb
  · rw [hJ] at hj
    obtain ⟨cr, rs', s, t, u, rfl, hs, hf, hlen, hL, hcr, hv, htk, hdr⟩ := hj
    have hjl := (List.getElem?_eq_some_iff.mp hd).1
    have bd := hys.at hd
    have ev := List.getElem?_eq_getElem (l := rs') (i := at' + j) (by exact o282 hl hlen hjl)
    have bv := hL.at ev
    generalize rs'[at' + j] = v at ev bv
    have hfc : H' r = some (.lst (rs'.map V.int)) := hf
    have hfcl : rs'.length ≤ lim := by unfold lim; exact o283 hll hlen
    have m0 : (0 : Int) ≤ (at' : Int) + (j : Int) := by exact o243
    have m1 : (at' : Int) + (j : Int) < (rs'.length : Int) := by exact o284 hl hlen hjl
    have m2 : ((at' : Int) + (j : Int)).toNat = at' + j := by exact o240
    have mb := mul_bound hg bd
    have hT0 : 0 ≤ g * d + cr := by exact o214 hcr.1 mb.1
    have hT1 : g * d + cr < B * B := by exact o285 hBl.1 hcr.2 mb.2
    have eb := ediv_lim (B := B) b0 hT0 hT1
    have em := emod_lim (B := B) b0 (g * d + cr)
    try simp only [x0, x1, x2, x3, x4, x5, x6, x7, x9, x10, x11, x12, x13, x14, x15, x16, x17, x18, x19, x20, x21, x22, x23, x27, x28, x29, x30, x31, x32, x33, x34, x35, x36, x37, x38, x39, x40, x41, x42, x43, x44, x49, x50, x51, x52, x53, forR_eq, forL_eq, forE_eq, idx_eq, x54, x55, x56, x57, x58, x59, x60, x61, x62, x63, x64, x65, x66, x67, x68, x69, x70, x71, x72, x73, x74, x75, x76, x77, x78, x79, x80, x81, x82, x83, x84, x85, x86, x87, x88, x89, x90, x91, x92, yz0, yz1, yz2, yz3, Option.some.injEq, exists_eq_left', exists_eq_left, exists_and_left, V.ref.injEq, V.int.injEq, V.fn.injEq, V.bool.injEq, Ob.lst.injEq, Ob.tup.injEq, decide_eq_true_eq, decide_eq_false_iff_not, Bool.not_eq_true', Bool.not_eq_false', Bool.not_true, Bool.not_false, List.length_map, yz4, yz5, yz6, yz7, yz8, yz9, yz10, yz11, true_and, and_true, reduceCtorEq, Bool.false_eq_true, Bool.true_eq_false, if_true, if_false, false_implies, true_implies, forall_const, and_self, false_and, and_false, or_false, false_or, implies_true, Nat.reduceAdd, Nat.reduceSub, ne_eq, not_true_eq_false, not_false_eq_true, Nat.zero_le, exists_eq', exists_eq, Int.toNat_natCast, AH.set_self, List.cons.injEq]
    refine idx_nat (at' + j) hf hfcl (by exact o245) ev ?_
    simp only [x0, x1, x2, x3, x4, x5, x6, x7, x9, x10, x11, x12, x13, x14, x15, x16, x17, x18, x19, x20, x21, x22, x23, x27, x28, x29, x30, x31, x32, x33, x34, x35, x36, x37, x38, x39, x40, x41, x42, x43, x44, x49, x50, x51, x52, x53, forR_eq, forL_eq, forE_eq, idx_eq, x54, x55, x56, x57, x58, x59, x60, x61, x62, x63, x64, x65, x66, x67, x68, x69, x70, x71, x72, x73, x74, x75, x76, x77, x78, x79, x80, x81, x82, x83, x84, x85, x86, x87, x88, x89, x90, x91, x92, yz0, yz1, yz2, yz3, Option.some.injEq, exists_eq_left', exists_eq_left, exists_and_left, V.ref.injEq, V.int.injEq, V.fn.injEq, V.bool.injEq, Ob.lst.injEq, Ob.tup.injEq, decide_eq_true_eq, decide_eq_false_iff_not, Bool.not_eq_true', Bool.not_eq_false', Bool.not_true, Bool.not_false, List.length_map, yz4, yz5, yz6, yz7, yz8, yz9, yz10, yz11, true_and, and_true, reduceCtorEq, Bool.false_eq_true, Bool.true_eq_false, if_true, if_false, false_implies, true_implies, forall_const, and_self, false_and, and_false, or_false, false_or, implies_true, Nat.reduceAdd, Nat.reduceSub, ne_eq, not_true_eq_false, not_false_eq_true, Nat.zero_le, exists_eq', exists_eq, Int.toNat_natCast, AH.set_self, List.cons.injEq, hw.sm hg, hw.sm bd, b0, b64]
    have fin : ∀ o : Int, (o = 0 ∧ ¬ v - (g * d + cr) % B < 0 ∨ o = 1 ∧ v - (g * d + cr) % B < 0) → J (j + 1) [some (.ref r), some (.ref b), some (.int g), some (.int (at' : Int)), some (.int w), some (.int ((g * d + cr) / B + o)), some (.int B), some (.int (j : Int)), some (.int d), some (.int (v - (g * d + cr) % B))]
        (H'.set r (.lst ((rs'.map V.int).set (at' + j) (V.int (v - (g * d + cr) % B + o * B))))) := fun o ho => by
      rw [hJ]
      refine ⟨(g * d + cr) / B + o, rs'.set (at' + j) (v - (g * d + cr) % B + o * B), _, _, _, rfl, hs.set, by simpa [List.map_set] using il_set (H := H') (c := r) (xs := rs'.set (at' + j) (v - (g * d + cr) % B + o * B)), by simpa using hlen, hL.set ?_ _, by exact o286 eb.1 eb.2 ho, ?_, ?_, ?_⟩
      · rcases ho with ⟨rfl, ho⟩ | ⟨rfl, ho⟩ <;> (first | exact o287 bv.2 em.1 ho | exact o288 bv.1 em.2 ho)
      · rw [val_set _ ev, val_next hd, hv, show at' + (j + 1) = at' + j + 1 by exact o131, Int.pow_succ]
        have := Int.emod_add_mul_ediv (g * d + cr) B
        generalize (g * d + cr) % B = r' at *
        generalize (g * d + cr) / B = q' at *
        have e1 : B ^ (at' + j) * (r' + B * q') = B ^ (at' + j) * (g * d + cr) := by rw [this]
        have e2 : B ^ (at' + j) = B ^ at' * B ^ j := Int.pow_add ..
        grind
      · rw [take_set_of_le (by exact o55)]; exact htk
      · rw [drop_set_lt (by exact o289)]
        have := congrArg (List.drop 1) hdr
        simpa [List.drop_drop, Nat.add_assoc] using this
    by_cases hneg : v - (g * d + cr) % B < 0
    · have q := fin 1 (.inr ⟨rfl, hneg⟩)
      rw [Int.one_mul] at q
      simp only [x0, x1, x2, x3, x4, x5, x6, x7, x9, x10, x11, x12, x13, x14, x15, x16, x17, x18, x19, x20, x21, x22, x23, x27, x28, x29, x30, x31, x32, x33, x34, x35, x36, x37, x38, x39, x40, x41, x42, x43, x44, x49, x50, x51, x52, x53, forR_eq, forL_eq, forE_eq, idx_eq, x54, x55, x56, x57, x58, x59, x60, x61, x62, x63, x64, x65, x66, x67, x68, x69, x70, x71, x72, x73, x74, x75, x76, x77, x78, x79, x80, x81, x82, x83, x84, x85, x86, x87, x88, x89, x90, x91, x92, yz0, yz1, yz2, yz3, Option.some.injEq, exists_eq_left', exists_eq_left, exists_and_left, V.ref.injEq, V.int.injEq, V.fn.injEq, V.bool.injEq, Ob.lst.injEq, Ob.tup.injEq, decide_eq_true_eq, decide_eq_false_iff_not, Bool.not_eq_true', Bool.not_eq_false', Bool.not_true, Bool.not_false, List.length_map, yz4, yz5, yz6, yz7, yz8, yz9, yz10, yz11, true_and, and_true, reduceCtorEq, Bool.false_eq_true, Bool.true_eq_false, if_true, if_false, false_implies, true_implies, forall_const, and_self, false_and, and_false, or_false, false_or, implies_true, Nat.reduceAdd, Nat.reduceSub, ne_eq, not_true_eq_false, not_false_eq_true, Nat.zero_le, exists_eq', exists_eq, Int.toNat_natCast, AH.set_self, List.cons.injEq, hneg, hfc, hfcl, m0, m1, m2]
      exact q
    · have q := fin 0 (.inl ⟨rfl, hneg⟩)
      rw [Int.zero_mul, Int.add_zero (v - (g * d + cr) % B)] at q
      simp only [x0, x1, x2, x3, x4, x5, x6, x7, x9, x10, x11, x12, x13, x14, x15, x16, x17, x18, x19, x20, x21, x22, x23, x27, x28, x29, x30, x31, x32, x33, x34, x35, x36, x37, x38, x39, x40, x41, x42, x43, x44, x49, x50, x51, x52, x53, forR_eq, forL_eq, forE_eq, idx_eq, x54, x55, x56, x57, x58, x59, x60, x61, x62, x63, x64, x65, x66, x67, x68, x69, x70, x71, x72, x73, x74, x75, x76, x77, x78, x79, x80, x81, x82, x83, x84, x85, x86, x87, x88, x89, x90, x91, x92, yz0, yz1, yz2, yz3, Option.some.injEq, exists_eq_left', exists_eq_left, exists_and_left, V.ref.injEq, V.int.injEq, V.fn.injEq, V.bool.injEq, Ob.lst.injEq, Ob.tup.injEq, decide_eq_true_eq, decide_eq_false_iff_not, Bool.not_eq_true', Bool.not_eq_false', Bool.not_true, Bool.not_false, List.length_map, yz4, yz5, yz6, yz7, yz8, yz9, yz10, yz11, true_and, and_true, reduceCtorEq, Bool.false_eq_true, Bool.true_eq_false, if_true, if_false, false_implies, true_implies, forall_const, and_self, false_and, and_false, or_false, false_or, implies_true, Nat.reduceAdd, Nat.reduceSub, ne_eq, not_true_eq_false, not_false_eq_true, Nat.zero_le, exists_eq', exists_eq, Int.toNat_natCast, AH.set_self, List.cons.injEq, hneg, hfc, hfcl, m0, m1, m2]
      exact q
  · rw [hJ] at hj
    obtain ⟨cr, rs', s, t, u, rfl, hs, hf, hlen, hL, hcr, hv, htk, hdr⟩ := hj
    rw [List.take_of_length_le (Nat.le_refl _)] at hv
    have ev := List.getElem?_eq_getElem (l := rs') (i := at' + ys.length) (by exact o290 hl hlen)
    have bv := hL.at ev
    generalize rs'[at' + ys.length] = v at ev bv
    have hfc : H' r = some (.lst (rs'.map V.int)) := hf
    have hbc : H' b = some (.lst (ys.map V.int)) := hs.il hrb hb
    have hfcl : rs'.length ≤ lim := by unfold lim; exact o283 hll hlen
    have m0 : (0 : Int) ≤ (at' : Int) + (ys.length : Int) := by exact o243
    have m1 : (at' : Int) + (ys.length : Int) < (rs'.length : Int) := by exact o291 hl hlen
    have m2 : ((at' : Int) + (ys.length : Int)).toNat = at' + ys.length := by exact o240
    have fin : ∀ o : Int, (o = 0 ∧ ¬ v - cr < 0 ∨ o = 1 ∧ v - cr < 0) → Q (.int o) (H'.set r (.lst ((rs'.map V.int).set (at' + ys.length) (V.int (v - cr + o * B))))) := fun o ho => by
      refine h o (rs'.set (at' + ys.length) (v - cr + o * B)) _ (by rcases ho with ⟨h, -⟩ | ⟨h, -⟩ <;> simp [h]) hs.set (by simpa [List.map_set] using il_set (H := H') (c := r) (xs := rs'.set (at' + ys.length) (v - cr + o * B))) (by simpa using hlen) (hL.set ?_ _) ?_ ?_ ?_
      · rcases ho with ⟨rfl, ho⟩ | ⟨rfl, ho⟩ <;> (first | exact o292 hcr.1 bv.2 ho | exact o293 hcr.2 bv.1 ho)
      · rw [take_set_of_le (by exact o55)]; exact htk
      · rw [drop_set_lt (by exact o294)]
        have := congrArg (List.drop 1) hdr
        simpa [List.drop_drop, Nat.add_assoc] using this
      · rw [val_set _ ev, hv, Int.pow_succ]
        grind
    simp only [x0, x1, x2, x3, x4, x5, x6, x7, x9, x10, x11, x12, x13, x14, x15, x16, x17, x18, x19, x20, x21, x22, x23, x27, x28, x29, x30, x31, x32, x33, x34, x35, x36, x37, x38, x39, x40, x41, x42, x43, x44, x49, x50, x51, x52, x53, forR_eq, forL_eq, forE_eq, idx_eq, x54, x55, x56, x57, x58, x59, x60, x61, x62, x63, x64, x65, x66, x67, x68, x69, x70, x71, x72, x73, x74, x75, x76, x77, x78, x79, x80, x81, x82, x83, x84, x85, x86, x87, x88, x89, x90, x91, x92, yz0, yz1, yz2, yz3, Option.some.injEq, exists_eq_left', exists_eq_left, exists_and_left, V.ref.injEq, V.int.injEq, V.fn.injEq, V.bool.injEq, Ob.lst.injEq, Ob.tup.injEq, decide_eq_true_eq, decide_eq_false_iff_not, Bool.not_eq_true', Bool.not_eq_false', Bool.not_true, Bool.not_false, List.length_map, yz4, yz5, yz6, yz7, yz8, yz9, yz10, yz11, true_and, and_true, reduceCtorEq, Bool.false_eq_true, Bool.true_eq_false, if_true, if_false, false_implies, true_implies, forall_const, and_self, false_and, and_false, or_false, false_or, implies_true, Nat.reduceAdd, Nat.reduceSub, ne_eq, not_true_eq_false, not_false_eq_true, Nat.zero_le, exists_eq', exists_eq, Int.toNat_natCast, AH.set_self, List.cons.injEq, hbc, lb]
    refine idx_nat (at' + ys.length) hf hfcl (by exact o245) ev ?_
    by_cases hneg : v - cr < 0
    · have q := fin 1 (.inr ⟨rfl, hneg⟩)
      rw [Int.one_mul] at q
      simp only [x0, x1, x2, x3, x4, x5, x6, x7, x9, x10, x11, x12, x13, x14, x15, x16, x17, x18, x19, x20, x21, x22, x23, x27, x28, x29, x30, x31, x32, x33, x34, x35, x36, x37, x38, x39, x40, x41, x42, x43, x44, x49, x50, x51, x52, x53, forR_eq, forL_eq, forE_eq, idx_eq, x54, x55, x56, x57, x58, x59, x60, x61, x62, x63, x64, x65, x66, x67, x68, x69, x70, x71, x72, x73, x74, x75, x76, x77, x78, x79, x80, x81, x82, x83, x84, x85, x86, x87, x88, x89, x90, x91, x92, yz0, yz1, yz2, yz3, Option.some.injEq, exists_eq_left', exists_eq_left, exists_and_left, V.ref.injEq, V.int.injEq, V.fn.injEq, V.bool.injEq, Ob.lst.injEq, Ob.tup.injEq, decide_eq_true_eq, decide_eq_false_iff_not, Bool.not_eq_true', Bool.not_eq_false', Bool.not_true, Bool.not_false, List.length_map, yz4, yz5, yz6, yz7, yz8, yz9, yz10, yz11, true_and, and_true, reduceCtorEq, Bool.false_eq_true, Bool.true_eq_false, if_true, if_false, false_implies, true_implies, forall_const, and_self, false_and, and_false, or_false, false_or, implies_true, Nat.reduceAdd, Nat.reduceSub, ne_eq, not_true_eq_false, not_false_eq_true, Nat.zero_le, exists_eq', exists_eq, Int.toNat_natCast, AH.set_self, List.cons.injEq, hneg, hfc, hbc, lb, hfcl, m0, m1, m2]
      exact q
    · have q := fin 0 (.inl ⟨rfl, hneg⟩)
      rw [Int.zero_mul, Int.add_zero] at q
      simp only [x0, x1, x2, x3, x4, x5, x6, x7, x9, x10, x11, x12, x13, x14, x15, x16, x17, x18, x19, x20, x21, x22, x23, x27, x28, x29, x30, x31, x32, x33, x34, x35, x36, x37, x38, x39, x40, x41, x42, x43, x44, x49, x50, x51, x52, x53, forR_eq, forL_eq, forE_eq, idx_eq, x54, x55, x56, x57, x58, x59, x60, x61, x62, x63, x64, x65, x66, x67, x68, x69, x70, x71, x72, x73, x74, x75, x76, x77, x78, x79, x80, x81, x82, x83, x84, x85, x86, x87, x88, x89, x90, x91, x92, yz0, yz1, yz2, yz3, Option.some.injEq, exists_eq_left', exists_eq_left, exists_and_left, V.ref.injEq, V.int.injEq, V.fn.injEq, V.bool.injEq, Ob.lst.injEq, Ob.tup.injEq, decide_eq_true_eq, decide_eq_false_iff_not, Bool.not_eq_true', Bool.not_eq_false', Bool.not_true, Bool.not_false, List.length_map, yz4, yz5, yz6, yz7, yz8, yz9, yz10, yz11, true_and, and_true, reduceCtorEq, Bool.false_eq_true, Bool.true_eq_false, if_true, if_false, false_implies, true_implies, forall_const, and_self, false_and, and_false, or_false, false_or, implies_true, Nat.reduceAdd, Nat.reduceSub, ne_eq, not_true_eq_false, not_false_eq_true, Nat.zero_le, exists_eq', exists_eq, Int.toNat_natCast, AH.set_self, List.cons.injEq, hneg, hfc, hbc, lb, hfcl, m0, m1, m2]
      exact q
theorem put_back_ok {n w : Nat} (hn : 1 ≤ n) (hw : WOk w B) {H : AH} {r b at' : Nat} {rs ys : List Int} {Q : PQ} (hr : IL H r rs) (hb : IL H b ys) (hrb : b ≠ r) (hrs : Lim B rs) (hys : Lim B ys) (hl : at' + ys.length < rs.length) (hll : rs.length ≤ 10000)
    (h : ∀ o rs' H', o = 0 ∨ o = 1 → SubBut r H H' → IL H' r rs' → rs'.length = rs.length → Lim B rs' → rs'.take at' = rs.take at' → rs'.drop (at' + ys.length + 1) = rs.drop (at' + ys.length + 1) →
      val B rs' = val B rs + val B ys * B ^ at' - o * B ^ (at' + ys.length + 1) → Q .none H') :
    callS theDefs n 25 [.ref r, .ref b, .int (at' : Int), .int w] H Q := by
  refine call_of hn rfl rfl ?_
  have hB := hw.two
  have hBl := hw.le
  have b0 : 0 < B := by exact o210 hBl.1
  have lb : ys.length ≤ lim := le_lim (by exact o280 hl hll)
  have hb' : H b = some (.lst (ys.map V.int)) := hb
  simp only [x0, x1, x2, x3, x4, x5, x6, x7, x9, x10, x11, x12, x13, x14, x15, x16, x17, x18, x19, x20, x21, x22, x23, x27, x28, x29, x30, x31, x32, x33, x34, x35, x36, x37, x38, x39, x40, x41, x42, x43, x44, x49, x50, x51, x52, x53, forR_eq, forL_eq, forE_eq, idx_eq, x54, x55, x56, x57, x58, x59, x60, x61, x62, x63, x64, x65, x66, x67, x68, x69, x70, x71, x72, x73, x74, x75, x76, x77, x78, x79, x80, x81, x82, x83, x84, x85, x86, x87, x88, x89, x90, x91, x92, yz0, yz1, yz2, yz3, Option.some.injEq, exists_eq_left', exists_eq_left, exists_and_left, V.ref.injEq, V.int.injEq, V.fn.injEq, V.bool.injEq, Ob.lst.injEq, Ob.tup.injEq, decide_eq_true_eq, decide_eq_false_iff_not, Bool.not_eq_true', Bool.not_eq_false', Bool.not_true, Bool.not_false, List.length_map, yz4, yz5, yz6, yz7, yz8, yz9, yz10, yz11, true_and, and_true, reduceCtorEq, Bool.false_eq_true, Bool.true_eq_false, if_true, if_false, false_implies, true_implies, forall_const, and_self, false_and, and_false, or_false, false_or, implies_true, Nat.reduceAdd, Nat.reduceSub, ne_eq, not_true_eq_false, not_false_eq_true, Nat.zero_le, exists_eq', exists_eq, Int.toNat_natCast, AH.set_self, List.cons.injEq, f_put_back, hw.pow, hw.nn, hw.k, one64, Int.one_mul]
  refine ⟨ys.map V.int, by simpa using lb, ?_⟩
  obtain ⟨J, hJ⟩ : ∃ J : Nat → Loc → AH → Prop, J = fun j l H' => ∃ cr rs' s t, l = [some (.ref r), some (.ref b), some (.int (at' : Int)), some (.int w), some (.int cr), some (.int (B - 1)), s, t] ∧ SubBut r H H' ∧ IL H' r rs' ∧ rs'.length = rs.length ∧ Lim B rs' ∧ (0 ≤ cr ∧ cr ≤ 1) ∧
      val B rs' = val B rs + val B (ys.take j) * B ^ at' - cr * B ^ (at' + j) ∧ rs'.take at' = rs.take at' ∧ rs'.drop (at' + j) = rs.drop (at' + j) := ⟨_, rfl⟩
  refine forE_in J (by rw [hJ]; exact ⟨0, rs, _, _, rfl, fun _ _ _ e => e, hr, rfl, hrs, by exact o181, by simp [val], rfl, rfl⟩) (fun m l H' hj => ?_) (fun j l H' d hd hj => ?_) fun l H' hj => ?_
  · rw [hJ] at hj
    obtain ⟨cr, rs', s, t, rfl, hs, hf, hlen, hL, hcr, hv, htk, hdr⟩ := hj
    exact hs.il hrb hb
  · rw [hJ] at hj
    obtain ⟨cr, rs', s, t, rfl, hs, hf, hlen, hL, hcr, hv, htk, hdr⟩ := hj
    have hjl := (List.getElem?_eq_some_iff.mp hd).1
    have bd := hys.at hd
    have ev := List.getElem?_eq_getElem (l := rs') (i := at' + j) (by exact o282 hl hlen hjl)
    have bv := hL.at ev
    generalize rs'[at' + j] = v at ev bv
    have hfc : H' r = some (.lst (rs'.map V.int)) := hf
    have hfcl : rs'.length ≤ lim := by unfold lim; exact o283 hll hlen
    have m0 : (0 : Int) ≤ (at' : Int) + (j : Int) := by exact o243
    have m1 : (at' : Int) + (j : Int) < (rs'.length : Int) := by exact o284 hl hlen hjl
    have m2 : ((at' : Int) + (j : Int)).toNat = at' + j := by exact o240
    have eb : 0 ≤ (cr + (v + d)) / B ∧ (cr + (v + d)) / B < 2 := ⟨Int.ediv_nonneg (by exact o295 hcr.1 bd.1 bv.1) (by exact o213 hBl.1), Int.ediv_lt_of_lt_mul b0 (by exact o296 hcr.2 bd.2 bv.2)⟩
    try simp only [x0, x1, x2, x3, x4, x5, x6, x7, x9, x10, x11, x12, x13, x14, x15, x16, x17, x18, x19, x20, x21, x22, x23, x27, x28, x29, x30, x31, x32, x33, x34, x35, x36, x37, x38, x39, x40, x41, x42, x43, x44, x49, x50, x51, x52, x53, forR_eq, forL_eq, forE_eq, idx_eq, x54, x55, x56, x57, x58, x59, x60, x61, x62, x63, x64, x65, x66, x67, x68, x69, x70, x71, x72, x73, x74, x75, x76, x77, x78, x79, x80, x81, x82, x83, x84, x85, x86, x87, x88, x89, x90, x91, x92, yz0, yz1, yz2, yz3, Option.some.injEq, exists_eq_left', exists_eq_left, exists_and_left, V.ref.injEq, V.int.injEq, V.fn.injEq, V.bool.injEq, Ob.lst.injEq, Ob.tup.injEq, decide_eq_true_eq, decide_eq_false_iff_not, Bool.not_eq_true', Bool.not_eq_false', Bool.not_true, Bool.not_false, List.length_map, yz4, yz5, yz6, yz7, yz8, yz9, yz10, yz11, true_and, and_true, reduceCtorEq, Bool.false_eq_true, Bool.true_eq_false, if_true, if_false, false_implies, true_implies, forall_const, and_self, false_and, and_false, or_false, false_or, implies_true, Nat.reduceAdd, Nat.reduceSub, ne_eq, not_true_eq_false, not_false_eq_true, Nat.zero_le, exists_eq', exists_eq, Int.toNat_natCast, AH.set_self, List.cons.injEq]
    refine idx_nat (at' + j) hf hfcl (by exact o245) ev ?_
    simp only [x0, x1, x2, x3, x4, x5, x6, x7, x9, x10, x11, x12, x13, x14, x15, x16, x17, x18, x19, x20, x21, x22, x23, x27, x28, x29, x30, x31, x32, x33, x34, x35, x36, x37, x38, x39, x40, x41, x42, x43, x44, x49, x50, x51, x52, x53, forR_eq, forL_eq, forE_eq, idx_eq, x54, x55, x56, x57, x58, x59, x60, x61, x62, x63, x64, x65, x66, x67, x68, x69, x70, x71, x72, x73, x74, x75, x76, x77, x78, x79, x80, x81, x82, x83, x84, x85, x86, x87, x88, x89, x90, x91, x92, yz0, yz1, yz2, yz3, Option.some.injEq, exists_eq_left', exists_eq_left, exists_and_left, V.ref.injEq, V.int.injEq, V.fn.injEq, V.bool.injEq, Ob.lst.injEq, Ob.tup.injEq, decide_eq_true_eq, decide_eq_false_iff_not, Bool.not_eq_true', Bool.not_eq_false', Bool.not_true, Bool.not_false, List.length_map, yz4, yz5, yz6, yz7, yz8, yz9, yz10, yz11, true_and, and_true, reduceCtorEq, Bool.false_eq_true, Bool.true_eq_false, if_true, if_false, false_implies, true_implies, forall_const, and_self, false_and, and_false, or_false, false_or, implies_true, Nat.reduceAdd, Nat.reduceSub, ne_eq, not_true_eq_false, not_false_eq_true, Nat.zero_le, exists_eq', exists_eq, Int.toNat_natCast, AH.set_self, List.cons.injEq, hfc, hfcl, m0, m1, m2, band_mask hw, hw.pow, hw.nn]
    rw [hJ]
    refine ⟨(cr + (v + d)) / B, rs'.set (at' + j) ((cr + (v + d)) % B), _, _, rfl, hs.set, by simpa [List.map_set] using il_set (H := H') (c := r) (xs := rs'.set (at' + j) ((cr + (v + d)) % B)), by simpa using hlen, hL.set (emod_lim b0 _) _, by exact o297 eb.1 eb.2, ?_, ?_, ?_⟩
    · rw [val_set _ ev, val_next hd, hv, show at' + (j + 1) = at' + j + 1 by exact o131, Int.pow_succ]
      have := Int.emod_add_mul_ediv (cr + (v + d)) B
      generalize (cr + (v + d)) % B = r' at *
      generalize (cr + (v + d)) / B = q' at *
      have e1 : B ^ (at' + j) * (r' + B * q') = B ^ (at' + j) * (cr + (v + d)) := by rw [this]
      have e2 : B ^ (at' + j) = B ^ at' * B ^ j := Int.pow_add ..
      grind
    · rw [take_set_of_le (by exact o55)]; exact htk
    · rw [drop_set_lt (by exact o289)]
      have := congrArg (List.drop 1) hdr
      simpa [List.drop_drop, Nat.add_assoc] using this
  · rw [hJ] at hj
    obtain ⟨cr, rs', s, t, rfl, hs, hf, hlen, hL, hcr, hv, htk, hdr⟩ := hj
    rw [List.take_of_length_le (Nat.le_refl _)] at hv
    have ev := List.getElem?_eq_getElem (l := rs') (i := at' + ys.length) (by exact o290 hl hlen)
    have bv := hL.at ev
    generalize rs'[at' + ys.length] = v at ev bv
    have hfc : H' r = some (.lst (rs'.map V.int)) := hf
    have hbc : H' b = some (.lst (ys.map V.int)) := hs.il hrb hb
    have hfcl : rs'.length ≤ lim := by unfold lim; exact o283 hll hlen
    have m0 : (0 : Int) ≤ (at' : Int) + (ys.length : Int) := by exact o243
    have m1 : (at' : Int) + (ys.length : Int) < (rs'.length : Int) := by exact o291 hl hlen
    have m2 : ((at' : Int) + (ys.length : Int)).toNat = at' + ys.length := by exact o240
    have eb : 0 ≤ (v + cr) / B ∧ (v + cr) / B < 2 := ⟨Int.ediv_nonneg (by exact o214 hcr.1 bv.1) (by exact o213 hBl.1), Int.ediv_lt_of_lt_mul b0 (by exact o298 hcr.2 bv.1 bv.2)⟩
    simp only [x0, x1, x2, x3, x4, x5, x6, x7, x9, x10, x11, x12, x13, x14, x15, x16, x17, x18, x19, x20, x21, x22, x23, x27, x28, x29, x30, x31, x32, x33, x34, x35, x36, x37, x38, x39, x40, x41, x42, x43, x44, x49, x50, x51, x52, x53, forR_eq, forL_eq, forE_eq, idx_eq, x54, x55, x56, x57, x58, x59, x60, x61, x62, x63, x64, x65, x66, x67, x68, x69, x70, x71, x72, x73, x74, x75, x76, x77, x78, x79, x80, x81, x82, x83, x84, x85, x86, x87, x88, x89, x90, x91, x92, yz0, yz1, yz2, yz3, Option.some.injEq, exists_eq_left', exists_eq_left, exists_and_left, V.ref.injEq, V.int.injEq, V.fn.injEq, V.bool.injEq, Ob.lst.injEq, Ob.tup.injEq, decide_eq_true_eq, decide_eq_false_iff_not, Bool.not_eq_true', Bool.not_eq_false', Bool.not_true, Bool.not_false, List.length_map, yz4, yz5, yz6, yz7, yz8, yz9, yz10, yz11, true_and, and_true, reduceCtorEq, Bool.false_eq_true, Bool.true_eq_false, if_true, if_false, false_implies, true_implies, forall_const, and_self, false_and, and_false, or_false, false_or, implies_true, Nat.reduceAdd, Nat.reduceSub, ne_eq, not_true_eq_false, not_false_eq_true, Nat.zero_le, exists_eq', exists_eq, Int.toNat_natCast, AH.set_self, List.cons.injEq, hbc, lb]
    refine idx_nat (at' + ys.length) hf hfcl (by exact o245) ev ?_
    simp only [x0, x1, x2, x3, x4, x5, x6, x7, x9, x10, x11, x12, x13, x14, x15, x16, x17, x18, x19, x20, x21, x22, x23, x27, x28, x29, x30, x31, x32, x33, x34, x35, x36, x37, x38, x39, x40, x41, x42, x43, x44, x49, x50, x51, x52, x53, forR_eq, forL_eq, forE_eq, idx_eq, x54, x55, x56, x57, x58, x59, x60, x61, x62, x63, x64, x65, x66, x67, x68, x69, x70, x71, x72, x73, x74, x75, x76, x77, x78, x79, x80, x81, x82, x83, x84, x85, x86, x87, x88, x89, x90, x91, x92, yz0, yz1, yz2, yz3, Option.some.injEq, exists_eq_left', exists_eq_left, exists_and_left, V.ref.injEq, V.int.injEq, V.fn.injEq, V.bool.injEq, Ob.lst.injEq, Ob.tup.injEq, decide_eq_true_eq, decide_eq_false_iff_not, Bool.not_eq_true', Bool.not_eq_false', Bool.not_true, Bool.not_false, List.length_map, yz4, yz5, yz6, yz7, yz8, yz9, yz10, yz11, true_and, and_true, reduceCtorEq, Bool.false_eq_true, Bool.true_eq_false, if_true, if_false, false_implies, true_implies, forall_const, and_self, false_and, and_false, or_false, false_or, implies_true, Nat.reduceAdd, Nat.reduceSub, ne_eq, not_true_eq_false, not_false_eq_true, Nat.zero_le, exists_eq', exists_eq, Int.toNat_natCast, AH.set_self, List.cons.injEq, hfc, hbc, lb, hfcl, m0, m1, m2, band_mask hw]
    refine h ((v + cr) / B) (rs'.set (at' + ys.length) ((v + cr) % B)) _ (by exact o299 eb.1 eb.2) hs.set (by simpa [List.map_set] using il_set (H := H') (c := r) (xs := rs'.set (at' + ys.length) ((v + cr) % B))) (by simpa using hlen) (hL.set (emod_lim b0 _) _) ?_ ?_ ?_
    · rw [take_set_of_le (by exact o55)]; exact htk
    · rw [drop_set_lt (by exact o294)]
      have := congrArg (List.drop 1) hdr
      simpa [List.drop_drop, Nat.add_assoc] using this
    · rw [val_set _ ev, hv, Int.pow_succ]
      have := Int.emod_add_mul_ediv (v + cr) B
      generalize (v + cr) % B = r' at *
      generalize (v + cr) / B = q' at *
      grind
end Mine
end
section
open PySem PySem.Calls PySem.W PyProof.Rows
set_option maxRecDepth 100000
namespace Mine
variable {B : Int} {Φ : Phi}
theorem SubBut.none {r : Nat} {H H' : AH} (h : SubBut r H H') {ob : Ob} (hr : H' r = some ob) {c : Nat} (hc : H' c = Option.none) : H c = Option.none := by
  cases q : H c with
  | none => rfl
  | some o =>
    have : c ≠ r := fun e => by rw [e, hr] at hc; cases hc
    rw [h c o this q] at hc; cases hc
theorem SubBut.new {r : Nat} {H H' : AH} (h : SubBut r H H') {c : Nat} {ob : Ob} (hc : H c = Option.none) : SubBut r H (H'.set c ob) := fun b ob' hb e => by
  rw [AH.set_ne fun q => by rw [q, hc] at e; cases e]; exact h b ob' hb e
theorem SubBut.trans {r : Nat} {H H' H'' : AH} (h : SubBut r H H') (h' : SubBut r H' H'') : SubBut r H H'' := fun b ob hb e => h' b ob hb (h b ob hb e)
theorem Sub.sb {r : Nat} {H H' : AH} (h : Sub H H') : SubBut r H H' := fun b ob _ e => h b ob e
theorem cut_mid {H : AH} {a : Nat} {xs : List Int} {lo hi : Int} {i j : Nat} {Q : PQ} (h : IL H a xs) (hl : xs.length ≤ lim) (h1 : lo = (i : Int)) (h2 : hi = (j : Int)) (h3 : i ≤ xs.length) (h4 : j ≤ xs.length)
    (q : ∀ c, H c = none → Q (.ref c) (H.set c (.lst (((xs.drop i).take (j - i)).map V.int)))) : cutS (.ref a) (some lo) (some hi) H Q := by
  subst h1 h2
  refine cut_il h hl fun c hc => ?_
  have := q c hc
  simpa [clip_nat (n := xs.length) (k := (i : Int)) (by exact o143) (by exact o207 h3), clip_nat (n := xs.length) (k := (j : Int)) (by exact o143) (by exact o207 h4)] using this
theorem knuth {d u g f s dlo ulo P U : Int} (hB : 2 ≤ B) (hP : 0 < P) (hd : d = dlo + P * (s + B * f)) (hdlo : 0 ≤ dlo ∧ dlo < P) (hu : u = ulo + P * U) (hulo : 0 ≤ ulo ∧ ulo < P) (hf : 0 < f) (hs : 0 ≤ s ∧ s < B) (hu0 : 0 ≤ u) (huB : u < B * d)
    (hg : 0 ≤ g ∧ g ≤ B - 1) (h1 : g * (f * B + s) ≤ U) (h2 : ∀ q, 0 ≤ q → q ≤ B - 1 → q * (f * B + s) ≤ U → q ≤ g) : 0 ≤ u / d ∧ u / d ≤ B - 1 ∧ u / d ≤ g ∧ g ≤ u / d + 1 := by
  have hD : B ≤ s + B * f := by have := Int.mul_le_mul_of_nonneg_left (show 1 ≤ f by exact o94 hf) (show 0 ≤ B by exact o76 hB); exact o300 hs.1 this
  have hPD : P * B ≤ P * (s + B * f) := Int.mul_le_mul_of_nonneg_left hD (by exact o96 hP)
  have hPB : 0 < P * B := Int.mul_pos hP (by exact o74 hB)
  have hd0 : 0 < d := by exact o301 hd hdlo.1 hPD hPB
  have q0 : 0 ≤ u / d := Int.ediv_nonneg hu0 (by exact o96 hd0)
  have q1 : u / d < B := Int.ediv_lt_of_lt_mul hd0 huB
  have q2 := Int.ediv_mul_le u (show d ≠ 0 by exact o7 hd0)
  have q3 := Int.lt_ediv_add_one_mul_self u hd0
  generalize u / d = q at *
  refine ⟨q0, by exact o69 q1, h2 q q0 (by exact o69 q1) ?_, ?_⟩
  · have e1 : q * d = q * dlo + (q * (f * B + s)) * P := by rw [hd]; grind
    have e2 : 0 ≤ q * dlo := Int.mul_nonneg q0 hdlo.1
    have e3 : (q * (f * B + s)) * P < (U + 1) * P := by have : (U + 1) * P = P * U + P := by grind
                                                        exact o302 hu hulo.2 q2 e1 e2 this
    have := Int.lt_of_mul_lt_mul_right e3 (by exact o96 hP)
    exact o261 this
  · have e1 : g * d = g * dlo + (g * (f * B + s)) * P := by rw [hd]; grind
    have e2 : (g * (f * B + s)) * P ≤ U * P := Int.mul_le_mul_of_nonneg_right h1 (by exact o96 hP)
    have e3 : g * dlo ≤ (B - 1) * P := Int.mul_le_mul hg.2 (by exact o303 hdlo.2) hdlo.1 (by exact o304 hB)
    have e4 : (B - 1) * P = P * B - P := by grind
    have e5 : U * P = P * U := Int.mul_comm ..
    rcases Int.lt_or_le (q + 1) g with z | z
    · exfalso
      have := Int.mul_le_mul_of_nonneg_right (show q + 1 ≤ g - 1 by exact o305 z) (show 0 ≤ d by exact o96 hd0)
      have e6 : (g - 1) * d = g * d - d := by grind
      have e7 : P * B ≤ d := by exact o306 hd hdlo.1 hPD
      exact o307 hdlo.1 hdlo.2 hu hulo.1 q3 e1 e2 e3 e4 e5 this e6 e7
    · exact z
theorem drop_val (hB : 0 < B) {xs ys : List Int} {k : Nat} {e : Int} (ht : xs.take k = ys.take k) (hv : val B xs = val B ys + e * B ^ k) : val B (xs.drop k) = val B (ys.drop k) + e := by
  have h1 := val_td (B := B) xs k
  have h2 := val_td (B := B) ys k
  rw [ht] at h1
  have hp : (0 : Int) < B ^ k := Int.pow_pos hB
  refine Int.eq_of_mul_eq_mul_left (show B ^ k ≠ 0 by exact o7 hp) ?_
  rw [Int.mul_add]
  have : e * B ^ k = B ^ k * e := Int.mul_comm ..
  exact o308 hv h1 h2 this
theorem high_zero (hB : 2 ≤ B) {xs : List Int} {s : Nat} {d : Int} (h : Lim B xs) (hv : val B xs < d) (hd : d < B ^ s) : val B (xs.drop s) = 0 := by
  have h1 := val_td (B := B) xs s
  have h2 := val_nonneg (by exact o76 hB) (h.take s)
  have h3 := val_nonneg (by exact o76 hB) (h.drop s)
  rcases Int.lt_or_eq_of_le h3 with z | z
  · have hp : (0 : Int) < B ^ s := Int.pow_pos (by exact o74 hB)
    have := Int.mul_le_mul_of_nonneg_left (show 1 ≤ val B (xs.drop s) by exact o94 z) (show 0 ≤ B ^ s by exact o96 hp)
    exact o309 hv hd h1 h2 this
  · exact z.symm
theorem low_lt (hB : 2 ≤ B) {xs : List Int} {s : Nat} (h : Lim B xs) (hv : val B (xs.drop s) = 0) : val B xs < B ^ s := by
  have h1 := val_td (B := B) xs s
  rw [hv, Int.mul_zero, Int.add_zero] at h1
  have h2 := val_lt (by exact o74 hB) (h.take s)
  have : B ^ (xs.take s).length ≤ B ^ s := pow_le (by exact o152 hB) (by rw [List.length_take]; exact o310)
  exact o311 h1 h2 this
theorem divide_rows_ok {n w : Nat} (hn : 2 ≤ n) (hw : WOk w B) {H : AH} {r b : Nat} {rs ys : List Int} {f : Int} {Q : PQ} (hr : IL H r rs) (hb : IL H b ys) (hrb : b ≠ r) (hrs : Lim B rs) (hys : Lim B ys) (h2 : 2 ≤ ys.length)
    (hf : ys[ys.length - 1]? = some f) (hf0 : 0 < f) (hl : ys.length < rs.length) (hll : rs.length ≤ 10000) (htop : val B (rs.drop (rs.length - ys.length)) < val B ys)
    (h : ∀ c qs rs' H', H c = none → SubBut r H H' → IL H' c qs → IL H' r rs' → Lim B qs → qs.length ≤ 10000 → Lim B rs' → rs'.length = rs.length → val B rs = val B ys * val B qs + val B rs' → val B rs' < val B ys → Q (.ref c) H') :
    callS theDefs n 26 [.ref r, .ref b, .int w] H Q := by
  refine call_of (by exact o204 hn) rfl rfl ?_
  have hB := hw.two
  have hBl := hw.le
  have b0 : 0 < B := by exact o210 hBl.1
  have lb : ys.length ≤ lim := le_lim (by exact o312 hl hll)
  have lr : rs.length ≤ lim := le_lim (by exact o313 hll)
  have hb' : H b = some (.lst (ys.map V.int)) := hb
  have hr' : H r = some (.lst (rs.map V.int)) := hr
  have l1 : 0 + 1 ≤ lim := le_lim (by simp)
  obtain ⟨m, hm⟩ : ∃ m, rs.length = m + ys.length := ⟨rs.length - ys.length, by exact o314 hl⟩
  have hm0 : 0 < m := by exact o315 hl hm
  rw [show rs.length - ys.length = m by exact o316 hm] at htop
  have z0 : (rs.length : Int) - (ys.length : Int) = (m : Int) := by exact o317 hm
  have z1 : -(lim : Int) ≤ (m : Int) := by exact o206
  have z2 : (m : Int) ≤ (lim : Int) := by unfold lim; exact o318 hll hm
  have hd1 := val_lt b0 hys
  have hy0 := val_nonneg (Int.le_of_lt b0) hys
  simp only [x0, x1, x2, x3, x4, x5, x6, x7, x9, x10, x11, x12, x13, x14, x15, x16, x17, x18, x19, x20, x21, x22, x23, x27, x28, x29, x30, x31, x32, x33, x34, x35, x36, x37, x38, x39, x40, x41, x42, x43, x44, x49, x50, x51, x52, x53, forR_eq, forL_eq, forE_eq, idx_eq, x54, x55, x56, x57, x58, x59, x60, x61, x62, x63, x64, x65, x66, x67, x68, x69, x70, x71, x72, x73, x74, x75, x76, x77, x78, x79, x80, x81, x82, x83, x84, x85, x86, x87, x88, x89, x90, x91, x92, yz0, yz1, yz2, yz3, Option.some.injEq, exists_eq_left', exists_eq_left, exists_and_left, V.ref.injEq, V.int.injEq, V.fn.injEq, V.bool.injEq, Ob.lst.injEq, Ob.tup.injEq, decide_eq_true_eq, decide_eq_false_iff_not, Bool.not_eq_true', Bool.not_eq_false', Bool.not_true, Bool.not_false, List.length_map, yz4, yz5, yz6, yz7, yz8, yz9, yz10, yz11, true_and, and_true, reduceCtorEq, Bool.false_eq_true, Bool.true_eq_false, if_true, if_false, false_implies, true_implies, forall_const, and_self, false_and, and_false, or_false, false_or, implies_true, Nat.reduceAdd, Nat.reduceSub, ne_eq, not_true_eq_false, not_false_eq_true, Nat.zero_le, exists_eq', exists_eq, Int.toNat_natCast, AH.set_self, List.cons.injEq, f_divide_rows, hb', lb, l1]
  intro c₁ hc₁
  have s₁ := Sub.new (ob := .lst [V.int 0]) hc₁
  have hr₁ : (H.set c₁ (.lst [V.int 0])) r = some (.lst (rs.map V.int)) := s₁.il hr
  simp only [x0, x1, x2, x3, x4, x5, x6, x7, x9, x10, x11, x12, x13, x14, x15, x16, x17, x18, x19, x20, x21, x22, x23, x27, x28, x29, x30, x31, x32, x33, x34, x35, x36, x37, x38, x39, x40, x41, x42, x43, x44, x49, x50, x51, x52, x53, forR_eq, forL_eq, forE_eq, idx_eq, x54, x55, x56, x57, x58, x59, x60, x61, x62, x63, x64, x65, x66, x67, x68, x69, x70, x71, x72, x73, x74, x75, x76, x77, x78, x79, x80, x81, x82, x83, x84, x85, x86, x87, x88, x89, x90, x91, x92, yz0, yz1, yz2, yz3, Option.some.injEq, exists_eq_left', exists_eq_left, exists_and_left, V.ref.injEq, V.int.injEq, V.fn.injEq, V.bool.injEq, Ob.lst.injEq, Ob.tup.injEq, decide_eq_true_eq, decide_eq_false_iff_not, Bool.not_eq_true', Bool.not_eq_false', Bool.not_true, Bool.not_false, List.length_map, yz4, yz5, yz6, yz7, yz8, yz9, yz10, yz11, true_and, and_true, reduceCtorEq, Bool.false_eq_true, Bool.true_eq_false, if_true, if_false, false_implies, true_implies, forall_const, and_self, false_and, and_false, or_false, false_or, implies_true, Nat.reduceAdd, Nat.reduceSub, ne_eq, not_true_eq_false, not_false_eq_true, Nat.zero_le, exists_eq', exists_eq, Int.toNat_natCast, AH.set_self, List.cons.injEq, hr₁, lr, z0, z1, z2]
  intro c hc₂
  have hc := s₁.none hc₂
  have s₂ := s₁.set (c := c) (ob := .lst (List.replicate m (V.int 0))) hc
  generalize hH₂ : (H.set c₁ (.lst [V.int 0])).set c (.lst (List.replicate m (V.int 0))) = H₂ at s₂ ⊢
  have hf₂ : IL H₂ c (List.replicate m 0) := by rw [← hH₂]; unfold IL; rw [AH.set_self, List.map_replicate]
  have hr₂ : H₂ r = some (.lst (rs.map V.int)) := s₂.il hr
  have hcr : c ≠ r := fun q => by rw [q, hr'] at hc; cases hc
  simp only [x0, x1, x2, x3, x4, x5, x6, x7, x9, x10, x11, x12, x13, x14, x15, x16, x17, x18, x19, x20, x21, x22, x23, x27, x28, x29, x30, x31, x32, x33, x34, x35, x36, x37, x38, x39, x40, x41, x42, x43, x44, x49, x50, x51, x52, x53, forR_eq, forL_eq, forE_eq, idx_eq, x54, x55, x56, x57, x58, x59, x60, x61, x62, x63, x64, x65, x66, x67, x68, x69, x70, x71, x72, x73, x74, x75, x76, x77, x78, x79, x80, x81, x82, x83, x84, x85, x86, x87, x88, x89, x90, x91, x92, yz0, yz1, yz2, yz3, Option.some.injEq, exists_eq_left', exists_eq_left, exists_and_left, V.ref.injEq, V.int.injEq, V.fn.injEq, V.bool.injEq, Ob.lst.injEq, Ob.tup.injEq, decide_eq_true_eq, decide_eq_false_iff_not, Bool.not_eq_true', Bool.not_eq_false', Bool.not_true, Bool.not_false, List.length_map, yz4, yz5, yz6, yz7, yz8, yz9, yz10, yz11, true_and, and_true, reduceCtorEq, Bool.false_eq_true, Bool.true_eq_false, if_true, if_false, false_implies, true_implies, forall_const, and_self, false_and, and_false, or_false, false_or, implies_true, Nat.reduceAdd, Nat.reduceSub, ne_eq, not_true_eq_false, not_false_eq_true, Nat.zero_le, exists_eq', exists_eq, Int.toNat_natCast, AH.set_self, List.cons.injEq, hr₂, lr, z0]
  obtain ⟨J, hJ⟩ : ∃ J : Nat → Loc → AH → Prop, J = fun k l H' => ∃ qs rs' z y, l = [some (.ref r), some (.ref b), some (.int w), some (.int (ys.length : Int)), some (.ref c), z, y] ∧ SubBut r H H' ∧ IL H' r rs' ∧ IL H' c qs ∧ rs'.length = rs.length ∧ Lim B rs' ∧ qs.length = m ∧ Lim B qs ∧
      (∀ i, i < k → i < m → qs[i]? = some 0) ∧ val B rs = val B ys * val B qs + val B rs' ∧ val B (rs'.drop k) < val B ys := ⟨_, rfl⟩
  refine forR_down (n := m) rfl (by exact o319 hll hm) J (by rw [hJ]; exact ⟨_, rs, _, _, rfl, s₂.sb, hr₂, hf₂, rfl, hrs, by simp, .zeros b0 _, fun i _ hi => by rw [List.getElem?_replicate, if_pos hi], by rw [val_replicate]; simp, htop⟩) (fun k l H' hk hj => ?_) fun l H' hj => ?_
  · rw [hJ] at hj
    obtain ⟨qs, rs', z, y, rfl, hs, hf', hq', hlen, hL, hql, hqL, hq0, hv, hlt⟩ := hj
    have hfl : rs'.length ≤ lim := by exact o177 lr hlen
    have hb'' : IL H' b ys := hs.il hrb hb
    have e0 := List.getElem?_eq_getElem (l := rs') (i := k + ys.length - 2) (by exact o320 hm hk hlen)
    have e1 := List.getElem?_eq_getElem (l := rs') (i := k + ys.length - 1) (by exact o321 hm hk hlen)
    have e2 := List.getElem?_eq_getElem (l := rs') (i := k + ys.length) (by exact o322 hm hk hlen)
    have es := List.getElem?_eq_getElem (l := ys) (i := ys.length - 2) (by exact o323 h2)
    have b0' := hL.at e0
    have b1' := hL.at e1
    have b2' := hL.at e2
    have bs' := hys.at es
    have bf' := hys.at hf
    have hwin : (rs'.drop (k + ys.length - 2)).take 3 = [rs'[k + ys.length - 2], rs'[k + ys.length - 1], rs'[k + ys.length]] := by
      rw [List.drop_eq_getElem_cons (i := k + ys.length - 2) (by exact o320 hm hk hlen), List.drop_eq_getElem_cons (i := k + ys.length - 2 + 1) (by exact o324 h2 hm hk hlen), List.drop_eq_getElem_cons (i := k + ys.length - 2 + 1 + 1) (by exact o325 h2 hm hk hlen)]
      simp only [List.take_succ_cons, List.take_zero]
      have q1 : k + ys.length - 2 + 1 = k + ys.length - 1 := by exact o326 h2
      have q2 : k + ys.length - 2 + 1 + 1 = k + ys.length := by exact o327 h2
      simp only [q1, q2]
      have q3 : k + ys.length - 1 + 1 = k + ys.length := by exact o328 h2
      simp only [q3]
    generalize rs'[k + ys.length - 2] = t₀ at *
    generalize rs'[k + ys.length - 1] = t₁ at *
    generalize rs'[k + ys.length] = t₂ at *
    generalize ys[ys.length - 2] = sc at *
    try simp only [x0, x1, x2, x3, x4, x5, x6, x7, x9, x10, x11, x12, x13, x14, x15, x16, x17, x18, x19, x20, x21, x22, x23, x27, x28, x29, x30, x31, x32, x33, x34, x35, x36, x37, x38, x39, x40, x41, x42, x43, x44, x49, x50, x51, x52, x53, forR_eq, forL_eq, forE_eq, idx_eq, x54, x55, x56, x57, x58, x59, x60, x61, x62, x63, x64, x65, x66, x67, x68, x69, x70, x71, x72, x73, x74, x75, x76, x77, x78, x79, x80, x81, x82, x83, x84, x85, x86, x87, x88, x89, x90, x91, x92, yz0, yz1, yz2, yz3, Option.some.injEq, exists_eq_left', exists_eq_left, exists_and_left, V.ref.injEq, V.int.injEq, V.fn.injEq, V.bool.injEq, Ob.lst.injEq, Ob.tup.injEq, decide_eq_true_eq, decide_eq_false_iff_not, Bool.not_eq_true', Bool.not_eq_false', Bool.not_true, Bool.not_false, List.length_map, yz4, yz5, yz6, yz7, yz8, yz9, yz10, yz11, true_and, and_true, reduceCtorEq, Bool.false_eq_true, Bool.true_eq_false, if_true, if_false, false_implies, true_implies, forall_const, and_self, false_and, and_false, or_false, false_or, implies_true, Nat.reduceAdd, Nat.reduceSub, ne_eq, not_true_eq_false, not_false_eq_true, Nat.zero_le, exists_eq', exists_eq, Int.toNat_natCast, AH.set_self, List.cons.injEq]
    refine cut_mid (i := k + ys.length - 2) (j := k + ys.length + 1) hf' hfl (by exact o329 h2) (by exact o330) (by exact o331 hm hk hlen) (by exact o332 hm hk hlen) fun c₃ hc₃ => ?_
    rw [show k + ys.length + 1 - (k + ys.length - 2) = 3 by exact o333 h2, hwin]
    have hHc₃ := hs.none hf' hc₃
    have n3 := Sub.new (ob := .lst ([t₀, t₁, t₂].map V.int)) hc₃
    have hs₃ := hs.new (ob := .lst ([t₀, t₁, t₂].map V.int)) hHc₃
    have hw₃ : IL (H'.set c₃ (.lst ([t₀, t₁, t₂].map V.int))) c₃ [t₀, t₁, t₂] := il_set
    have hf₃ := n3.il hf'
    have hq₃ := n3.il hq'
    have hb₃ := n3.il hb''
    generalize H'.set c₃ (.lst ([t₀, t₁, t₂].map V.int)) = H₃ at *
    refine idx_nat (ys.length - 1) hb₃ lb (by exact o334 h2) hf (idx_nat (ys.length - 2) hb₃ lb (by exact o335 h2) es ?_)
    refine guess_ok (by exact o218 hn) hw hw₃ b0' b1' b2' ⟨hf0, bf'.2⟩ bs' fun g g0 g1 g2 g3 => ?_
    have hzero : val B (rs'.drop (k + 1 + ys.length)) = 0 := by
      have := high_zero (s := ys.length) hB (hL.drop (k + 1)) hlt hd1
      rwa [List.drop_drop] at this
    have hdk : rs'.drop k = rs'[k] :: rs'.drop (k + 1) := List.drop_eq_getElem_cons (by exact o336 hm hk hlen)
    have bk := hL.at (List.getElem?_eq_getElem (l := rs') (i := k) (by exact o336 hm hk hlen))
    have hu : val B (rs'.drop k) = rs'[k] + B * val B (rs'.drop (k + 1)) := by rw [hdk]; rfl
    have hu0 := val_nonneg (Int.le_of_lt b0) (hL.drop k)
    have huB : val B (rs'.drop k) < B * val B ys := by
      have := Int.mul_le_mul_of_nonneg_left (show val B (rs'.drop (k + 1)) ≤ val B ys - 1 by exact o69 hlt) (Int.le_of_lt b0)
      have e : B * (val B ys - 1) = B * val B ys - B := by grind
      exact o337 bk.2 hu this e
    have hU := val_td (B := B) (rs'.drop k) (ys.length - 2)
    rw [List.drop_drop, show k + (ys.length - 2) = k + ys.length - 2 by exact o338 h2] at hU
    have hU3 : val B (rs'.drop (k + ys.length - 2)) = t₀ + B * (t₁ + B * t₂) := by
      have := val_td (B := B) (rs'.drop (k + ys.length - 2)) 3
      rw [hwin, List.drop_drop, show k + ys.length - 2 + 3 = k + 1 + ys.length by exact o339 h2, hzero] at this
      simpa [val] using this
    rw [hU3] at hU
    have hD := val_td (B := B) ys (ys.length - 2)
    have hD2 : val B (ys.drop (ys.length - 2)) = sc + B * f := by
      obtain ⟨y1, y2⟩ := List.getElem?_eq_some_iff.mp es
      obtain ⟨y3, y4⟩ := List.getElem?_eq_some_iff.mp hf
      rw [List.drop_eq_getElem_cons (i := ys.length - 2) (by exact o340 y1), List.drop_eq_getElem_cons (i := ys.length - 2 + 1) (by exact o341 h2), List.drop_eq_nil_of_le (by exact o342), y2]
      have : ys[ys.length - 2 + 1]'(by exact o341 h2) = f := by rw [← y4]; congr 1; exact o343 h2
      rw [this]
      simp [val]
    rw [hD2] at hD
    have hP : (0 : Int) < B ^ (ys.length - 2) := Int.pow_pos b0
    have lo1 := val_lt b0 ((hL.drop k).take (ys.length - 2))
    rw [List.length_take, List.length_drop, Nat.min_eq_left (by exact o344 hm hk hlen)] at lo1
    have lo2 := val_lt b0 (hys.take (ys.length - 2))
    rw [List.length_take, Nat.min_eq_left (by exact o345)] at lo2
    have e3 : (t₂ * B + t₁) * B + t₀ = t₀ + B * (t₁ + B * t₂) := by grind
    rw [e3] at g2 g3
    have K := knuth hB hP hD ⟨val_nonneg (Int.le_of_lt b0) (hys.take _), lo2⟩ hU ⟨val_nonneg (Int.le_of_lt b0) ((hL.drop k).take _), lo1⟩ hf0 bs' hu0 huB ⟨g0, g1⟩ g2 g3
    have hd0 : 0 < val B ys := by
      have := val_nonneg (Int.le_of_lt b0) (hL.drop (k + 1))
      exact o346 hlt this
    have q2 := Int.ediv_mul_le (val B (rs'.drop k)) (show val B ys ≠ 0 by exact o7 hd0)
    have q3 := Int.lt_ediv_add_one_mul_self (val B (rs'.drop k)) hd0
    generalize val B (rs'.drop k) / val B ys = q at *
    generalize hu' : val B (rs'.drop k) = u at *
    have q4 : (q + 1) * val B ys = q * val B ys + val B ys := by grind
    have kq := hq0 k (by exact o217) hk
    have m0 : (0 : Int) ≤ (k : Int) := by exact o143
    have m1 : (k : Int) < (qs.length : Int) := by exact o212 hk hql
    have hqsl : qs.length ≤ lim := by unfold lim; exact o347 hll hm hql
    have fin : ∀ rs₅ H₅ z, SubBut r H H₅ → IL H₅ r rs₅ → IL H₅ c qs → rs₅.length = rs.length → Lim B rs₅ → val B rs₅ = val B rs' - q * val B ys * B ^ k → val B (rs₅.drop k) = u - q * val B ys →
        J k [some (.ref r), some (.ref b), some (.int w), some (.int (ys.length : Int)), some (.ref c), some (.int (k : Int)), some z] (H₅.set c (.lst ((qs.map V.int).set k (V.int q)))) := fun rs₅ H₅ z hs₅ hr₅ hq₅ hl₅ hL₅ hv₅ hd₅ => by
      rw [hJ]
      refine ⟨qs.set k q, rs₅, _, _, rfl, ?_, ?_, by simpa [List.map_set] using il_set (H := H₅) (c := c) (xs := qs.set k q), hl₅, hL₅, by simpa using hql, hqL.set ⟨K.1, by exact o348 K.2.1⟩ _, fun i hi him => ?_, ?_, ?_⟩
      · exact hs₅.new hc
      · show (H₅.set c _) r = _
        rw [AH.set_ne (Ne.symm hcr)]; exact hr₅
      · rw [List.getElem?_set_ne (by exact o349 hi)]; exact hq0 i (by exact o350 hi) him
      · rw [val_set _ kq, hv, hv₅]; grind
      · exact o351 q3 q4 hd₅
    refine take_away_ok (by exact o218 hn) hw hf₃ hb₃ hrb hL hys ⟨g0, by exact o348 g1⟩ (by exact o322 hm hk hlen) (by exact o352 hll hlen) fun o rs₂ H₄ ho hs₄ hf₄ hl₄ hL₄ ht₄ hd₄ hv₄ => ?_
    have hs₄' := hs₃.trans hs₄
    have hq₄ := hs₄.il hcr hq₃
    have hq₄' : H₄ c = some (.lst (qs.map V.int)) := hq₄
    have eB : B ^ (k + ys.length + 1) = B ^ (ys.length + 1) * B ^ k := by rw [← Int.pow_add]; congr 1; exact o353
    have hu₂ : val B (rs₂.drop k) = u + (o * B ^ (ys.length + 1) - g * val B ys) := by
      rw [← hu']; exact drop_val b0 ht₄ (by rw [hv₄, eB]; grind)
    have hz₄ : val B ((rs₂.drop k).drop (ys.length + 1)) = 0 := by
      rw [List.drop_drop, show k + (ys.length + 1) = k + ys.length + 1 by exact o131, hd₄, show k + ys.length + 1 = k + 1 + ys.length by exact o354]; exact hzero
    have lt₂ := low_lt hB (hL₄.drop k) hz₄
    have ge₂ := val_nonneg (Int.le_of_lt b0) (hL₄.drop k)
    try simp only [x0, x1, x2, x3, x4, x5, x6, x7, x9, x10, x11, x12, x13, x14, x15, x16, x17, x18, x19, x20, x21, x22, x23, x27, x28, x29, x30, x31, x32, x33, x34, x35, x36, x37, x38, x39, x40, x41, x42, x43, x44, x49, x50, x51, x52, x53, forR_eq, forL_eq, forE_eq, idx_eq, x54, x55, x56, x57, x58, x59, x60, x61, x62, x63, x64, x65, x66, x67, x68, x69, x70, x71, x72, x73, x74, x75, x76, x77, x78, x79, x80, x81, x82, x83, x84, x85, x86, x87, x88, x89, x90, x91, x92, yz0, yz1, yz2, yz3, Option.some.injEq, exists_eq_left', exists_eq_left, exists_and_left, V.ref.injEq, V.int.injEq, V.fn.injEq, V.bool.injEq, Ob.lst.injEq, Ob.tup.injEq, decide_eq_true_eq, decide_eq_false_iff_not, Bool.not_eq_true', Bool.not_eq_false', Bool.not_true, Bool.not_false, List.length_map, yz4, yz5, yz6, yz7, yz8, yz9, yz10, yz11, true_and, and_true, reduceCtorEq, Bool.false_eq_true, Bool.true_eq_false, if_true, if_false, false_implies, true_implies, forall_const, and_self, false_and, and_false, or_false, false_or, implies_true, Nat.reduceAdd, Nat.reduceSub, ne_eq, not_true_eq_false, not_false_eq_true, Nat.zero_le, exists_eq', exists_eq, Int.toNat_natCast, AH.set_self, List.cons.injEq]
    rcases ho with rfl | rfl
    · refine ⟨fun h => by exact (o355 h).elim, fun _ => ?_⟩
      have hgq : g = q := by
        rcases Int.lt_or_le q g with z | z
        · have := Int.mul_le_mul_of_nonneg_right (show q + 1 ≤ g by exact o156 z) (show 0 ≤ val B ys by exact o356 hy0)
          exact o357 q3 ge₂ hu₂ this
        · exact o358 K.2.2.1 z
      subst hgq
      simp only [x0, x1, x2, x3, x4, x5, x6, x7, x9, x10, x11, x12, x13, x14, x15, x16, x17, x18, x19, x20, x21, x22, x23, x27, x28, x29, x30, x31, x32, x33, x34, x35, x36, x37, x38, x39, x40, x41, x42, x43, x44, x49, x50, x51, x52, x53, forR_eq, forL_eq, forE_eq, idx_eq, x54, x55, x56, x57, x58, x59, x60, x61, x62, x63, x64, x65, x66, x67, x68, x69, x70, x71, x72, x73, x74, x75, x76, x77, x78, x79, x80, x81, x82, x83, x84, x85, x86, x87, x88, x89, x90, x91, x92, yz0, yz1, yz2, yz3, Option.some.injEq, exists_eq_left', exists_eq_left, exists_and_left, V.ref.injEq, V.int.injEq, V.fn.injEq, V.bool.injEq, Ob.lst.injEq, Ob.tup.injEq, decide_eq_true_eq, decide_eq_false_iff_not, Bool.not_eq_true', Bool.not_eq_false', Bool.not_true, Bool.not_false, List.length_map, yz4, yz5, yz6, yz7, yz8, yz9, yz10, yz11, true_and, and_true, reduceCtorEq, Bool.false_eq_true, Bool.true_eq_false, if_true, if_false, false_implies, true_implies, forall_const, and_self, false_and, and_false, or_false, false_or, implies_true, Nat.reduceAdd, Nat.reduceSub, ne_eq, not_true_eq_false, not_false_eq_true, Nat.zero_le, exists_eq', exists_eq, Int.toNat_natCast, AH.set_self, List.cons.injEq, hq₄', hqsl, m0, m1]
      exact fin rs₂ H₄ _ hs₄' hf₄ hq₄ (by exact o359 hlen hl₄) hL₄ (by rw [hv₄]; grind) (by rw [hu₂]; grind)
    · refine ⟨fun _ => ?_, fun h => by exact (o360 h).elim⟩
      have hgq : g - 1 = q := by
        rcases Int.lt_or_le q g with z | z
        · exact o361 K.2.2.2 z
        · exfalso
          have := Int.mul_le_mul_of_nonneg_right z (show 0 ≤ val B ys by exact o356 hy0)
          exact o362 q2 lt₂ hu₂ this
      have hb₄ := hs₄.il hrb hb₃
      refine put_back_ok (by exact o218 hn) hw hf₄ hb₄ hrb hL₄ hys (by exact o363 hm hk hlen hl₄) (by exact o364 hll hlen hl₄) fun o' rs₅ H₅ ho' hs₅ hf₅ hl₅ hL₅ ht₅ hd₅ hv₅ => ?_
      have hq₅ := hs₅.il hcr hq₄
      have hq₅' : H₅ c = some (.lst (qs.map V.int)) := hq₅
      have hu₅ : val B (rs₅.drop k) = val B (rs₂.drop k) + (val B ys - o' * B ^ (ys.length + 1)) := drop_val b0 ht₅ (by rw [hv₅, eB]; grind)
      have hz₅ : val B ((rs₅.drop k).drop (ys.length + 1)) = 0 := by
        rw [List.drop_drop, show k + (ys.length + 1) = k + ys.length + 1 by exact o131, hd₅, hd₄, show k + ys.length + 1 = k + 1 + ys.length by exact o354]; exact hzero
      have lt₅ := low_lt hB (hL₅.drop k) hz₅
      have hgd : g * val B ys = q * val B ys + val B ys := by rw [show g = q + 1 by exact o365 hgq]; exact q4
      have ho1 : o' = 1 := by
        rcases ho' with rfl | rfl
        · exfalso; exact o366 q2 hu₂ lt₅ hgd hu₅
        · rfl
      subst ho1
      simp only [x0, x1, x2, x3, x4, x5, x6, x7, x9, x10, x11, x12, x13, x14, x15, x16, x17, x18, x19, x20, x21, x22, x23, x27, x28, x29, x30, x31, x32, x33, x34, x35, x36, x37, x38, x39, x40, x41, x42, x43, x44, x49, x50, x51, x52, x53, forR_eq, forL_eq, forE_eq, idx_eq, x54, x55, x56, x57, x58, x59, x60, x61, x62, x63, x64, x65, x66, x67, x68, x69, x70, x71, x72, x73, x74, x75, x76, x77, x78, x79, x80, x81, x82, x83, x84, x85, x86, x87, x88, x89, x90, x91, x92, yz0, yz1, yz2, yz3, Option.some.injEq, exists_eq_left', exists_eq_left, exists_and_left, V.ref.injEq, V.int.injEq, V.fn.injEq, V.bool.injEq, Ob.lst.injEq, Ob.tup.injEq, decide_eq_true_eq, decide_eq_false_iff_not, Bool.not_eq_true', Bool.not_eq_false', Bool.not_true, Bool.not_false, List.length_map, yz4, yz5, yz6, yz7, yz8, yz9, yz10, yz11, true_and, and_true, reduceCtorEq, Bool.false_eq_true, Bool.true_eq_false, if_true, if_false, false_implies, true_implies, forall_const, and_self, false_and, and_false, or_false, false_or, implies_true, Nat.reduceAdd, Nat.reduceSub, ne_eq, not_true_eq_false, not_false_eq_true, Nat.zero_le, exists_eq', exists_eq, Int.toNat_natCast, AH.set_self, List.cons.injEq, hq₅', hqsl, m0, m1, hgq]
      exact fin rs₅ H₅ _ (hs₄'.trans hs₅) hf₅ hq₅ (by exact o367 hlen hl₄ hl₅) hL₅ (by rw [hv₅, hv₄]; grind) (by rw [hu₅, hu₂]; grind)
  · rw [hJ] at hj
    obtain ⟨qs, rs', z, y, rfl, hs, hf', hq', hlen, hL, hql, hqL, hq0, hv, hlt⟩ := hj
    try simp only [x0, x1, x2, x3, x4, x5, x6, x7, x9, x10, x11, x12, x13, x14, x15, x16, x17, x18, x19, x20, x21, x22, x23, x27, x28, x29, x30, x31, x32, x33, x34, x35, x36, x37, x38, x39, x40, x41, x42, x43, x44, x49, x50, x51, x52, x53, forR_eq, forL_eq, forE_eq, idx_eq, x54, x55, x56, x57, x58, x59, x60, x61, x62, x63, x64, x65, x66, x67, x68, x69, x70, x71, x72, x73, x74, x75, x76, x77, x78, x79, x80, x81, x82, x83, x84, x85, x86, x87, x88, x89, x90, x91, x92, yz0, yz1, yz2, yz3, Option.some.injEq, exists_eq_left', exists_eq_left, exists_and_left, V.ref.injEq, V.int.injEq, V.fn.injEq, V.bool.injEq, Ob.lst.injEq, Ob.tup.injEq, decide_eq_true_eq, decide_eq_false_iff_not, Bool.not_eq_true', Bool.not_eq_false', Bool.not_true, Bool.not_false, List.length_map, yz4, yz5, yz6, yz7, yz8, yz9, yz10, yz11, true_and, and_true, reduceCtorEq, Bool.false_eq_true, Bool.true_eq_false, if_true, if_false, false_implies, true_implies, forall_const, and_self, false_and, and_false, or_false, false_or, implies_true, Nat.reduceAdd, Nat.reduceSub, ne_eq, not_true_eq_false, not_false_eq_true, Nat.zero_le, exists_eq', exists_eq, Int.toNat_natCast, AH.set_self, List.cons.injEq]
    exact h c qs rs' H' hc hs hq' hf' hqL (by exact o368 hll hm hql) hL hlen hv (by simpa using hlt)
end Mine
end
section
open PySem PySem.Calls PySem.W PyProof.Rows
set_option maxRecDepth 100000
namespace Mine
variable {B : Int} {Φ : Phi}
theorem bits_spec {w : Nat} (hw : WOk w B) {f : Int} (hf : 0 < f ∧ f < B) : ∃ s : Nat, s < w ∧ (w : Int) - (Builtin.Int.intBits f : Int) = (s : Int) ∧ (f + 1) * 2 ^ s ≤ B := by
  obtain ⟨k, rfl⟩ := Int.eq_ofNat_of_zero_le (Int.le_of_lt hf.1)
  have hk : k ≠ 0 := by exact o369 hf.1
  have hkB : k < 2 ^ w := by have := hf.2; rw [hw.eq] at this; exact_mod_cast this
  have h1 := (Nat.log2_lt hk).mpr hkB
  have h2 : k < 2 ^ (k.log2 + 1) := Nat.lt_log2_self
  have e : Builtin.Int.intBits (k : Int) = k.log2 + 1 := by
    unfold Builtin.Int.intBits
    rw [if_neg (by simpa using hk)]
    simp
  refine ⟨w - (k.log2 + 1), by exact o370 h1, by rw [e]; exact o371 h1, ?_⟩
  have h3 : (k + 1) * 2 ^ (w - (k.log2 + 1)) ≤ 2 ^ (k.log2 + 1) * 2 ^ (w - (k.log2 + 1)) := Nat.mul_le_mul_right _ h2
  rw [← Nat.pow_add, show k.log2 + 1 + (w - (k.log2 + 1)) = w by exact o372 h1] at h3
  rw [hw.eq]
  exact_mod_cast h3
theorem lim_small {n : Nat} (h : n ≤ 1000) : n ≤ lim := le_lim (by exact o373 h)
theorem val_top {xs : List Int} {f : Int} (hB : 2 ≤ B) (h : Lim B xs) (hl : xs.getLast? = some f) : val B xs < (f + 1) * B ^ (xs.length - 1) := by
  rw [List.getLast?_eq_getElem?] at hl
  have := val_at (B := B) hl
  have hlen := (List.getElem?_eq_some_iff.mp hl).1
  rw [show xs.length - 1 + 1 = xs.length by exact o170 hlen, List.drop_eq_nil_of_le (Nat.le_refl _)] at this
  have h1 := val_lt (by exact o74 hB) (h.take (xs.length - 1))
  rw [List.length_take, Nat.min_eq_left (by exact o171)] at h1
  simp [val] at this
  have : (f + 1) * B ^ (xs.length - 1) = B ^ (xs.length - 1) * f + B ^ (xs.length - 1) := by grind
  exact o374 h1 (by assumption) this
theorem divrem_school_ok {n w : Nat} (hn : 5 ≤ n) (hw : WOk w B) {H : AH} {a b : Nat} {x y : Int} {Q : PQ} (ha : IL H a (limbs B x)) (hb : IL H b (limbs B y)) (hx : 0 ≤ x ∧ x < 2 ^ 64) (hy : 0 < y ∧ y < 2 ^ 64) (h : RetT H (limbs B (x / y)) (limbs B (x % y)) Q) :
    callS theDefs n 27 [.ref a, .ref b, .int w] H Q := by
  refine call_of (by exact o375 hn) rfl rfl ?_
  have hB := hw.two
  have hBl := hw.le
  have b0 : 0 < B := by exact o210 hBl.1
  have hy' : 0 ≤ y ∧ y < 2 ^ 64 := by exact o376 hy.1 hy.2
  have la := len_lim hB hx.1 hx.2
  have lb := len_lim hB hy'.1 hy'.2
  have la' := lim_small (show (limbs B x).length ≤ 1000 by exact o377 la)
  have lb' := lim_small (show (limbs B y).length ≤ 1000 by exact o377 lb)
  have ha' : H a = some (.lst ((limbs B x).map V.int)) := ha
  have hb' : H b = some (.lst ((limbs B y).map V.int)) := hb
  have wa := limbs_lim hB x hx.1
  have wb := limbs_lim hB y hy'.1
  have hlb0 : (limbs B y).length ≠ 0 := fun e => by have := (limbs_eq_nil hB hy'.1).mp (List.length_eq_zero_iff.mp e); exact o208 hy.1 this
  have l1 : 0 + 1 ≤ lim := le_lim (by simp)
  have l2 : 0 + 1 + 1 ≤ lim := le_lim (by simp)
  simp only [x0, x1, x2, x3, x4, x5, x6, x7, x9, x10, x11, x12, x13, x14, x15, x16, x17, x18, x19, x20, x21, x22, x23, x27, x28, x29, x30, x31, x32, x33, x34, x35, x36, x37, x38, x39, x40, x41, x42, x43, x44, x49, x50, x51, x52, x53, forR_eq, forL_eq, forE_eq, idx_eq, x54, x55, x56, x57, x58, x59, x60, x61, x62, x63, x64, x65, x66, x67, x68, x69, x70, x71, x72, x73, x74, x75, x76, x77, x78, x79, x80, x81, x82, x83, x84, x85, x86, x87, x88, x89, x90, x91, x92, yz0, yz1, yz2, yz3, Option.some.injEq, exists_eq_left', exists_eq_left, exists_and_left, V.ref.injEq, V.int.injEq, V.fn.injEq, V.bool.injEq, Ob.lst.injEq, Ob.tup.injEq, decide_eq_true_eq, decide_eq_false_iff_not, Bool.not_eq_true', Bool.not_eq_false', Bool.not_true, Bool.not_false, List.length_map, yz4, yz5, yz6, yz7, yz8, yz9, yz10, yz11, true_and, and_true, reduceCtorEq, Bool.false_eq_true, Bool.true_eq_false, if_true, if_false, false_implies, true_implies, forall_const, and_self, false_and, and_false, or_false, false_or, implies_true, Nat.reduceAdd, Nat.reduceSub, ne_eq, not_true_eq_false, not_false_eq_true, Nat.zero_le, exists_eq', exists_eq, Int.toNat_natCast, AH.set_self, List.cons.injEq, f_divrem_school, hb', lb', l1, l2]
  refine ⟨fun h0 => by exact o378 hlb0 h0, fun _ => compare_ok (by exact o379 hn) hw ha hb hx hy' ?_⟩
  try simp only [x0, x1, x2, x3, x4, x5, x6, x7, x9, x10, x11, x12, x13, x14, x15, x16, x17, x18, x19, x20, x21, x22, x23, x27, x28, x29, x30, x31, x32, x33, x34, x35, x36, x37, x38, x39, x40, x41, x42, x43, x44, x49, x50, x51, x52, x53, forR_eq, forL_eq, forE_eq, idx_eq, x54, x55, x56, x57, x58, x59, x60, x61, x62, x63, x64, x65, x66, x67, x68, x69, x70, x71, x72, x73, x74, x75, x76, x77, x78, x79, x80, x81, x82, x83, x84, x85, x86, x87, x88, x89, x90, x91, x92, yz0, yz1, yz2, yz3, Option.some.injEq, exists_eq_left', exists_eq_left, exists_and_left, V.ref.injEq, V.int.injEq, V.fn.injEq, V.bool.injEq, Ob.lst.injEq, Ob.tup.injEq, decide_eq_true_eq, decide_eq_false_iff_not, Bool.not_eq_true', Bool.not_eq_false', Bool.not_true, Bool.not_false, List.length_map, yz4, yz5, yz6, yz7, yz8, yz9, yz10, yz11, true_and, and_true, reduceCtorEq, Bool.false_eq_true, Bool.true_eq_false, if_true, if_false, false_implies, true_implies, forall_const, and_self, false_and, and_false, or_false, false_or, implies_true, Nat.reduceAdd, Nat.reduceSub, ne_eq, not_true_eq_false, not_false_eq_true, Nat.zero_le, exists_eq', exists_eq, Int.toNat_natCast, AH.set_self, List.cons.injEq]
  refine ⟨fun hc => ?_, fun hc => ?_⟩
  · have hxy : x < y := by unfold cmpVal at hc; split at hc; · assumption
                           · split at hc <;> (first | exact o380 hc | exact o381 hc)
    intro c₁ hc₁
    refine cut_il ((Sub.new hc₁).il ha) la' fun c₂ hc₂ => ?_
    simp only [Option.elim_none, List.drop_zero, Nat.sub_zero, List.take_length]
    intro c hc
    have s₁ := Sub.new (ob := .lst []) hc₁
    have s₂ := s₁.set (c := c₂) (ob := .lst ((limbs B x).map V.int)) (s₁.none hc₂)
    have s₃ := s₂.set (c := c) (ob := .tup [V.ref c₁, V.ref c₂]) (s₂.none hc)
    refine h c c₁ c₂ _ (s₂.none hc) hc₁ (s₁.none hc₂) s₃ AH.set_self ?_ ?_
    · rw [Int.ediv_eq_zero_of_lt hx.1 hxy, limbs_zero]
      exact (Sub.new hc).il ((Sub.new hc₂).il (il_set (xs := [])))
    · rw [Int.emod_eq_of_lt hx.1 hxy]
      exact (Sub.new hc).il il_set
  have hxy : y ≤ x := by unfold cmpVal at hc; split at hc; · simp at hc
                         · exact o268 (by assumption)
  simp only [x0, x1, x2, x3, x4, x5, x6, x7, x9, x10, x11, x12, x13, x14, x15, x16, x17, x18, x19, x20, x21, x22, x23, x27, x28, x29, x30, x31, x32, x33, x34, x35, x36, x37, x38, x39, x40, x41, x42, x43, x44, x49, x50, x51, x52, x53, forR_eq, forL_eq, forE_eq, idx_eq, x54, x55, x56, x57, x58, x59, x60, x61, x62, x63, x64, x65, x66, x67, x68, x69, x70, x71, x72, x73, x74, x75, x76, x77, x78, x79, x80, x81, x82, x83, x84, x85, x86, x87, x88, x89, x90, x91, x92, yz0, yz1, yz2, yz3, Option.some.injEq, exists_eq_left', exists_eq_left, exists_and_left, V.ref.injEq, V.int.injEq, V.fn.injEq, V.bool.injEq, Ob.lst.injEq, Ob.tup.injEq, decide_eq_true_eq, decide_eq_false_iff_not, Bool.not_eq_true', Bool.not_eq_false', Bool.not_true, Bool.not_false, List.length_map, yz4, yz5, yz6, yz7, yz8, yz9, yz10, yz11, true_and, and_true, reduceCtorEq, Bool.false_eq_true, Bool.true_eq_false, if_true, if_false, false_implies, true_implies, forall_const, and_self, false_and, and_false, or_false, false_or, implies_true, Nat.reduceAdd, Nat.reduceSub, ne_eq, not_true_eq_false, not_false_eq_true, Nat.zero_le, exists_eq', exists_eq, Int.toNat_natCast, AH.set_self, List.cons.injEq, hb', lb', l1, l2]
  refine ⟨fun h1 => ?_, fun h1 => ?_⟩
  · obtain ⟨d, hd⟩ := List.length_eq_one_iff.mp (show (limbs B y).length = 1 by exact o382 h1)
    have hv := limbs_val hB y hy'.1
    rw [hd] at hv
    simp [val] at hv
    subst hv
    have bd := wb d (by rw [hd]; exact .head _)
    exact divrem_small_ok (by exact o383 hn) hw ha (hd ▸ hb) hx ⟨hy.1, bd.2⟩ h
  have hlb2 : 2 ≤ (limbs B y).length := by exact o384 (by assumption) h1
  obtain ⟨f, hf⟩ : ∃ f, (limbs B y).getLast? = some f := by
    rw [List.getLast?_eq_getElem?]
    exact ⟨_, List.getElem?_eq_getElem (by exact o385 hlb2)⟩
  have bf : 0 ≤ f ∧ f < B := wb f (List.mem_of_getLast? hf)
  have hf0 : f ≠ 0 := fun e => limbs_last hB y hy'.1 (by rw [hf, e])
  obtain ⟨s, hs, hsE, hsB⟩ := bits_spec hw (f := f) (by exact o386 bf.1 bf.2 hf0)
  have hP : (0 : Int) < 2 ^ s := Int.pow_pos (by decide)
  have hPB : (2 : Int) ^ s < B := by rw [hw.eq]; exact Int.pow_lt_pow_of_lt (by decide) hs
  refine idx_last hb lb' hf ?_
  intro c₀ hc₀
  have t₀ := Sub.new (ob := .lst [V.int f]) hc₀
  refine bits_ok (by exact o379 hn) hw (il_set (xs := [f])) ?_
  simp only [x0, x1, x2, x3, x4, x5, x6, x7, x9, x10, x11, x12, x13, x14, x15, x16, x17, x18, x19, x20, x21, x22, x23, x27, x28, x29, x30, x31, x32, x33, x34, x35, x36, x37, x38, x39, x40, x41, x42, x43, x44, x49, x50, x51, x52, x53, forR_eq, forL_eq, forE_eq, idx_eq, x54, x55, x56, x57, x58, x59, x60, x61, x62, x63, x64, x65, x66, x67, x68, x69, x70, x71, x72, x73, x74, x75, x76, x77, x78, x79, x80, x81, x82, x83, x84, x85, x86, x87, x88, x89, x90, x91, x92, yz0, yz1, yz2, yz3, Option.some.injEq, exists_eq_left', exists_eq_left, exists_and_left, V.ref.injEq, V.int.injEq, V.fn.injEq, V.bool.injEq, Ob.lst.injEq, Ob.tup.injEq, decide_eq_true_eq, decide_eq_false_iff_not, Bool.not_eq_true', Bool.not_eq_false', Bool.not_true, Bool.not_false, List.length_map, yz4, yz5, yz6, yz7, yz8, yz9, yz10, yz11, true_and, and_true, reduceCtorEq, Bool.false_eq_true, Bool.true_eq_false, if_true, if_false, false_implies, true_implies, forall_const, and_self, false_and, and_false, or_false, false_or, implies_true, Nat.reduceAdd, Nat.reduceSub, ne_eq, not_true_eq_false, not_false_eq_true, Nat.zero_le, exists_eq', exists_eq, Int.toNat_natCast, AH.set_self, List.cons.injEq, hsE]
  refine shift_left_ok (by exact o379 hn) hw hs (t₀.il hb) hy' fun c₄ H₄ hc₄ hs₄ hf₄ => ?_
  have t₄ := t₀.trans hs₄
  refine shift_left_ok (by exact o379 hn) hw hs (t₄.il ha) hx fun c₅ H₅ hc₅ hs₅ hf₅ => ?_
  have t₅ := t₄.trans hs₅
  have hxs0 : 0 ≤ x * 2 ^ s := Int.mul_nonneg hx.1 (by exact o96 hP)
  have hys0 : 0 < y * 2 ^ s := Int.mul_pos hy.1 hP
  have xlt := val_lt b0 wa
  rw [limbs_val hB x hx.1] at xlt
  have hlx : (limbs B (x * 2 ^ s)).length ≤ (limbs B x).length + 1 := limbs_len hB _ _ hxs0 (by
    rw [Int.pow_succ]
    exact Int.mul_lt_mul xlt (Int.le_of_lt hPB) hP (by exact o387 hx.1 xlt))
  have hly : (limbs B (y * 2 ^ s)).length ≤ (limbs B y).length := limbs_len hB _ _ (by exact o96 hys0) (by
    have h1 := val_top hB wb hf
    rw [limbs_val hB y hy'.1] at h1
    have h2 : y * 2 ^ s < ((f + 1) * B ^ ((limbs B y).length - 1)) * 2 ^ s := Int.mul_lt_mul_of_pos_right h1 hP
    have h3 : ((f + 1) * B ^ ((limbs B y).length - 1)) * 2 ^ s = ((f + 1) * 2 ^ s) * B ^ ((limbs B y).length - 1) := by grind
    have h4 : ((f + 1) * 2 ^ s) * B ^ ((limbs B y).length - 1) ≤ B * B ^ ((limbs B y).length - 1) := Int.mul_le_mul_of_nonneg_right hsB (Int.le_of_lt (Int.pow_pos b0))
    have h5 : B ^ (limbs B y).length = B * B ^ ((limbs B y).length - 1) := by
      conv => lhs; rw [show (limbs B y).length = (limbs B y).length - 1 + 1 by exact o388 hlb2]
      rw [Int.pow_succ, Int.mul_comm]
    exact o389 h2 h3 h4 h5)
  have hlab : (limbs B y).length ≤ (limbs B x).length := by
    rcases Nat.lt_or_ge (limbs B x).length (limbs B y).length with z | z
    · have := len_less hB hx.1 hy'.1 z; exact o390 hxy this
    · exact z
  have ylow := limbs_len_lt hB hy.1
  have hl2 : 2 ≤ (limbs B (y * 2 ^ s)).length := by
    rcases Nat.lt_or_ge (limbs B (y * 2 ^ s)).length 2 with z | z
    · exfalso
      have h1 := val_lt b0 (limbs_lim hB (y * 2 ^ s) (by exact o96 hys0))
      rw [limbs_val hB _ (by exact o96 hys0)] at h1
      have h2 : B ^ (limbs B (y * 2 ^ s)).length ≤ B ^ 1 := pow_le (by exact o391 hBl.1) (by exact o392 z)
      have h3 : B ^ 1 ≤ B ^ ((limbs B y).length - 1) := pow_le (by exact o391 hBl.1) (by exact o218 hlb2)
      have h4 := Int.mul_le_mul_of_nonneg_left (show 1 ≤ (2 : Int) ^ s by exact o94 hP) hy'.1
      exact o393 ylow h1 h2 h3 h4
    · exact z
  have lx' := lim_small (show (limbs B (x * 2 ^ s)).length ≤ 1000 by exact o394 la hlx)
  have ha₅ : H₅ a = some (.lst ((limbs B x).map V.int)) := t₅.il ha
  have hf₅' : H₅ c₅ = some (.lst ((limbs B (x * 2 ^ s)).map V.int)) := hf₅
  simp only [x0, x1, x2, x3, x4, x5, x6, x7, x9, x10, x11, x12, x13, x14, x15, x16, x17, x18, x19, x20, x21, x22, x23, x27, x28, x29, x30, x31, x32, x33, x34, x35, x36, x37, x38, x39, x40, x41, x42, x43, x44, x49, x50, x51, x52, x53, forR_eq, forL_eq, forE_eq, idx_eq, x54, x55, x56, x57, x58, x59, x60, x61, x62, x63, x64, x65, x66, x67, x68, x69, x70, x71, x72, x73, x74, x75, x76, x77, x78, x79, x80, x81, x82, x83, x84, x85, x86, x87, x88, x89, x90, x91, x92, yz0, yz1, yz2, yz3, Option.some.injEq, exists_eq_left', exists_eq_left, exists_and_left, V.ref.injEq, V.int.injEq, V.fn.injEq, V.bool.injEq, Ob.lst.injEq, Ob.tup.injEq, decide_eq_true_eq, decide_eq_false_iff_not, Bool.not_eq_true', Bool.not_eq_false', Bool.not_true, Bool.not_false, List.length_map, yz4, yz5, yz6, yz7, yz8, yz9, yz10, yz11, true_and, and_true, reduceCtorEq, Bool.false_eq_true, Bool.true_eq_false, if_true, if_false, false_implies, true_implies, forall_const, and_self, false_and, and_false, or_false, false_or, implies_true, Nat.reduceAdd, Nat.reduceSub, ne_eq, not_true_eq_false, not_false_eq_true, Nat.zero_le, exists_eq', exists_eq, Int.toNat_natCast, AH.set_self, List.cons.injEq, hf₅', l1]
  intro c₆ hc₆
  have u₆ := Sub.new (ob := .lst [V.int 0]) hc₆
  have t₆ := t₅.trans u₆
  obtain ⟨p, hp⟩ : ∃ p : Nat, (limbs B x).length + 1 = (limbs B (x * 2 ^ s)).length + p := ⟨_, (Nat.add_sub_cancel' hlx).symm⟩
  have z0 : ((limbs B x).length : Int) + 1 - ((limbs B (x * 2 ^ s)).length : Int) = (p : Int) := by exact o395 hp
  have z1 : -(lim : Int) ≤ (p : Int) := by exact o206
  have z2 : (p : Int) ≤ (lim : Int) := by unfold lim; exact o396 la hp
  have ha₆ : (H₅.set c₆ (.lst [V.int 0])) a = some (.lst ((limbs B x).map V.int)) := u₆.il ha₅
  have hf₆' : (H₅.set c₆ (.lst [V.int 0])) c₅ = some (.lst ((limbs B (x * 2 ^ s)).map V.int)) := u₆.il hf₅
  simp only [x0, x1, x2, x3, x4, x5, x6, x7, x9, x10, x11, x12, x13, x14, x15, x16, x17, x18, x19, x20, x21, x22, x23, x27, x28, x29, x30, x31, x32, x33, x34, x35, x36, x37, x38, x39, x40, x41, x42, x43, x44, x49, x50, x51, x52, x53, forR_eq, forL_eq, forE_eq, idx_eq, x54, x55, x56, x57, x58, x59, x60, x61, x62, x63, x64, x65, x66, x67, x68, x69, x70, x71, x72, x73, x74, x75, x76, x77, x78, x79, x80, x81, x82, x83, x84, x85, x86, x87, x88, x89, x90, x91, x92, yz0, yz1, yz2, yz3, Option.some.injEq, exists_eq_left', exists_eq_left, exists_and_left, V.ref.injEq, V.int.injEq, V.fn.injEq, V.bool.injEq, Ob.lst.injEq, Ob.tup.injEq, decide_eq_true_eq, decide_eq_false_iff_not, Bool.not_eq_true', Bool.not_eq_false', Bool.not_true, Bool.not_false, List.length_map, yz4, yz5, yz6, yz7, yz8, yz9, yz10, yz11, true_and, and_true, reduceCtorEq, Bool.false_eq_true, Bool.true_eq_false, if_true, if_false, false_implies, true_implies, forall_const, and_self, false_and, and_false, or_false, false_or, implies_true, Nat.reduceAdd, Nat.reduceSub, ne_eq, not_true_eq_false, not_false_eq_true, Nat.zero_le, exists_eq', exists_eq, Int.toNat_natCast, AH.set_self, List.cons.injEq, ha₆, hf₆', la', lx', z0, z1, z2]
  intro c₇ hc₇
  have u₇ := Sub.new (ob := .lst (List.replicate p (V.int 0))) hc₇
  have t₇ := t₆.trans u₇
  have hf₇' : ((H₅.set c₆ (.lst [V.int 0])).set c₇ (.lst (List.replicate p (V.int 0)))) c₅ = some (.lst ((limbs B (x * 2 ^ s)).map V.int)) := u₇.il hf₆'
  have hf₄₇ : IL ((H₅.set c₆ (.lst [V.int 0])).set c₇ (.lst (List.replicate p (V.int 0)))) c₄ (limbs B (y * 2 ^ s)) := u₇.il (u₆.il (hs₅.il hf₄))
  have l3 : (limbs B (x * 2 ^ s)).length + p ≤ lim := lim_small (by exact o397 la hp)
  simp only [x0, x1, x2, x3, x4, x5, x6, x7, x9, x10, x11, x12, x13, x14, x15, x16, x17, x18, x19, x20, x21, x22, x23, x27, x28, x29, x30, x31, x32, x33, x34, x35, x36, x37, x38, x39, x40, x41, x42, x43, x44, x49, x50, x51, x52, x53, forR_eq, forL_eq, forE_eq, idx_eq, x54, x55, x56, x57, x58, x59, x60, x61, x62, x63, x64, x65, x66, x67, x68, x69, x70, x71, x72, x73, x74, x75, x76, x77, x78, x79, x80, x81, x82, x83, x84, x85, x86, x87, x88, x89, x90, x91, x92, yz0, yz1, yz2, yz3, Option.some.injEq, exists_eq_left', exists_eq_left, exists_and_left, V.ref.injEq, V.int.injEq, V.fn.injEq, V.bool.injEq, Ob.lst.injEq, Ob.tup.injEq, decide_eq_true_eq, decide_eq_false_iff_not, Bool.not_eq_true', Bool.not_eq_false', Bool.not_true, Bool.not_false, List.length_map, yz4, yz5, yz6, yz7, yz8, yz9, yz10, yz11, true_and, and_true, reduceCtorEq, Bool.false_eq_true, Bool.true_eq_false, if_true, if_false, false_implies, true_implies, forall_const, and_self, false_and, and_false, or_false, false_or, implies_true, Nat.reduceAdd, Nat.reduceSub, ne_eq, not_true_eq_false, not_false_eq_true, Nat.zero_le, exists_eq', exists_eq, Int.toNat_natCast, AH.set_self, List.cons.injEq, hf₇', List.length_replicate, l3]
  intro c₈ hc₈
  have u₈ := Sub.new (ob := .lst ((limbs B (x * 2 ^ s)).map V.int ++ List.replicate p (V.int 0))) hc₈
  have t₈ := t₇.trans u₈
  have hf₄₈ := u₈.il hf₄₇
  have hne : c₄ ≠ c₈ := il_ne hf₄₇ hc₈
  have hf₈ : IL ((((H₅.set c₆ (.lst [V.int 0])).set c₇ (.lst (List.replicate p (V.int 0))))).set c₈ (.lst ((limbs B (x * 2 ^ s)).map V.int ++ List.replicate p (V.int 0)))) c₈ (limbs B (x * 2 ^ s) ++ List.replicate p 0) := by
    unfold IL; rw [AH.set_self]; simp
  have hHc₈ := t₇.none hc₈
  generalize ((H₅.set c₆ (.lst [V.int 0])).set c₇ (.lst (List.replicate p (V.int 0)))).set c₈ (.lst ((limbs B (x * 2 ^ s)).map V.int ++ List.replicate p (V.int 0))) = H₈ at *
  have wrs : Lim B (limbs B (x * 2 ^ s) ++ List.replicate p 0) := (limbs_lim hB _ hxs0).append (.zeros b0 p)
  have wys := limbs_lim hB (y * 2 ^ s) (by exact o96 hys0)
  have vrs : val B (limbs B (x * 2 ^ s) ++ List.replicate p 0) = x * 2 ^ s := by rw [val_append, val_replicate, limbs_val hB _ hxs0]; exact o398
  have vys := limbs_val hB (y * 2 ^ s) (by exact o96 hys0)
  have lrs : (limbs B (x * 2 ^ s) ++ List.replicate p 0).length = (limbs B x).length + 1 := by simp; exact o399 hp
  obtain ⟨f', hf'⟩ : ∃ f', (limbs B (y * 2 ^ s))[(limbs B (y * 2 ^ s)).length - 1]? = some f' := ⟨_, List.getElem?_eq_getElem (by exact o385 hl2)⟩
  have bf' := wys.at hf'
  have hf0' : f' ≠ 0 := fun e => limbs_last hB (y * 2 ^ s) (by exact o96 hys0) (by rw [List.getLast?_eq_getElem?, hf', e])
  generalize limbs B (x * 2 ^ s) ++ List.replicate p 0 = rs at *
  refine divide_rows_ok (by exact o400 hn) hw hf₈ hf₄₈ hne wrs wys hl2 hf' (by exact o86 bf'.1 hf0') (by exact o401 hly hlab lrs) (by exact o402 la lrs) ?_ fun c₉ qs rs' H₉ hc₉ hs₉ hq₉ hr₉ wq lq wr lr' hv hlt => ?_
  · rw [vys]
    have h1 := val_td (B := B) rs (rs.length - (limbs B (y * 2 ^ s)).length)
    rw [vrs] at h1
    have h2 := val_nonneg (Int.le_of_lt b0) (wrs.take (rs.length - (limbs B (y * 2 ^ s)).length))
    have h3 : B ^ ((limbs B x).length) ≤ B ^ (rs.length - (limbs B (y * 2 ^ s)).length) * B ^ ((limbs B y).length - 1) := by
      rw [← Int.pow_add]; exact pow_le (by exact o391 hBl.1) (by exact o403 hly lrs)
    have hk : (0 : Int) < B ^ (rs.length - (limbs B (y * 2 ^ s)).length) := Int.pow_pos b0
    generalize B ^ (rs.length - (limbs B (y * 2 ^ s)).length) = K at *
    have h4 := Int.mul_le_mul_of_nonneg_left ylow (Int.le_of_lt hk)
    have h5 : x * 2 ^ s < (K * y) * 2 ^ s := Int.mul_lt_mul_of_pos_right (by exact o404 xlt h3 h4) hP
    have h6 : (K * y) * 2 ^ s = K * (y * 2 ^ s) := Int.mul_assoc ..
    exact Int.lt_of_mul_lt_mul_left (a := K) (by exact o405 h2 h1 h5 h6) (Int.le_of_lt hk)
  rw [vrs, vys] at hv
  rw [vys] at hlt
  have vr0 := val_nonneg (Int.le_of_lt b0) wr
  obtain ⟨d1, d2⟩ := div_uniq hv ⟨vr0, hlt⟩
  rw [Int.mul_ediv_mul_of_pos_left _ _ hP] at d1
  have d2 : (x % y) * 2 ^ s = val B rs' := by rw [← d2, Int.emod_def, Int.emod_def, Int.mul_ediv_mul_of_pos_left _ _ hP]; grind
  have t₉ := t₈.but hHc₈ hs₉
  have hm0 := Int.emod_nonneg x (show y ≠ 0 by exact o7 hy.1)
  have hm1 := Int.emod_lt_of_pos x hy.1
  refine normal_ok (by exact o379 hn) hq₉ (by unfold lim; exact o406 lq) fun e₁ G₁ he₁ ts₁ hg₁ => ?_
  refine normal_ok (by exact o379 hn) (ts₁.il hr₉) (by unfold lim; exact o407 la lrs lr') fun e₂ G₂ he₂ ts₂ hg₂ => ?_
  rw [norm_limbs hB wr, ← d2] at hg₂
  have hms : (x % y) * 2 ^ s ≤ (x % y) * B := Int.mul_le_mul_of_nonneg_left (Int.le_of_lt hPB) hm0
  have hms' : (x % y) * B ≤ (x % y) * 64 := Int.mul_le_mul_of_nonneg_left (by exact o408 hBl.2) hm0
  refine shift_right_ok (by exact o400 hn) hw hs hg₂ ⟨Int.mul_nonneg hm0 (by exact o96 hP), by exact o409 hy.2 hm1 hms hms'⟩ fun e₃ G₃ he₃ ts₃ hg₃ => ?_
  rw [Int.mul_ediv_cancel _ (show (2 : Int) ^ s ≠ 0 by exact o7 hP)] at hg₃
  rw [norm_limbs hB wq, ← d1] at hg₁
  intro e₄ he₄
  have v₁ := t₉.trans ts₁
  have v₂ := v₁.trans ts₂
  have v₃ := v₂.trans ts₃
  refine h e₄ e₁ e₃ _ (v₃.none he₄) (t₉.none he₁) (v₂.none he₃) (v₃.set (v₃.none he₄)) AH.set_self ?_ ?_
  · exact (Sub.new he₄).il (ts₃.il (ts₂.il hg₁))
  · exact (Sub.new he₄).il hg₃
end Mine
end
section
open PySem PySem.Calls PySem.W PyProof.Rows
set_option maxRecDepth 100000
namespace Mine
variable {B : Int} {Φ : Phi}
theorem digit_off_ok {n w : Nat} (hn : 6 ≤ n) (hw : WOk w B) {H : AH} {a : Nat} {x b : Int} {Q : PQ} (ha : IL H a (limbs B x)) (hx : 0 ≤ x ∧ x < 2 ^ 64) (hb : 2 ≤ b ∧ b < 2 ^ 20) (h : RetP H (limbs B (x / b)) (x % b) Q) :
    callS theDefs n 11 [.ref a, .int b, .int w, .fn 27] H Q := by
  refine call_of (by exact o410 hn) rfl rfl ?_
  have hrm := emod_lim (show 0 < b by exact o74 hb.1) x
  have l2 : 0 + 1 + 1 ≤ lim := le_lim (by simp)
  simp only [x0, x1, x2, x3, x4, x5, x6, x7, x9, x10, x11, x12, x13, x14, x15, x16, x17, x18, x19, x20, x21, x22, x23, x27, x28, x29, x30, x31, x32, x33, x34, x35, x36, x37, x38, x39, x40, x41, x42, x43, x44, x49, x50, x51, x52, x53, forR_eq, forL_eq, forE_eq, idx_eq, x54, x55, x56, x57, x58, x59, x60, x61, x62, x63, x64, x65, x66, x67, x68, x69, x70, x71, x72, x73, x74, x75, x76, x77, x78, x79, x80, x81, x82, x83, x84, x85, x86, x87, x88, x89, x90, x91, x92, yz0, yz1, yz2, yz3, Option.some.injEq, exists_eq_left', exists_eq_left, exists_and_left, V.ref.injEq, V.int.injEq, V.fn.injEq, V.bool.injEq, Ob.lst.injEq, Ob.tup.injEq, decide_eq_true_eq, decide_eq_false_iff_not, Bool.not_eq_true', Bool.not_eq_false', Bool.not_true, Bool.not_false, List.length_map, yz4, yz5, yz6, yz7, yz8, yz9, yz10, yz11, true_and, and_true, reduceCtorEq, Bool.false_eq_true, Bool.true_eq_false, if_true, if_false, false_implies, true_implies, forall_const, and_self, false_and, and_false, or_false, false_or, implies_true, Nat.reduceAdd, Nat.reduceSub, ne_eq, not_true_eq_false, not_false_eq_true, Nat.zero_le, exists_eq', exists_eq, Int.toNat_natCast, AH.set_self, List.cons.injEq, f_digit_off, hw.pow, hw.nn, hw.k, one64, Int.one_mul]
  refine ⟨fun hlt => divrem_limb_ok (by exact o411 hn) hw ha hx ⟨by exact o74 hb.1, hlt⟩ h, fun hge => ?_⟩
  refine nat_of_ok (by exact o412 hn) hw (show 0 ≤ b by exact o76 hb.1) (by exact o413 hb.2) fun c₁ H₁ hc₁ s₁ h₁ => ?_
  refine divrem_school_ok (by exact o414 hn) hw (s₁.il ha) h₁ hx (by exact o415 hb.1 hb.2) fun c c₂ c₃ H₂ hc hc₂ hc₃ s₂ ht hq hr => ?_
  simp only [x0, x1, x2, x3, x4, x5, x6, x7, x9, x10, x11, x12, x13, x14, x15, x16, x17, x18, x19, x20, x21, x22, x23, x27, x28, x29, x30, x31, x32, x33, x34, x35, x36, x37, x38, x39, x40, x41, x42, x43, x44, x49, x50, x51, x52, x53, forR_eq, forL_eq, forE_eq, idx_eq, x54, x55, x56, x57, x58, x59, x60, x61, x62, x63, x64, x65, x66, x67, x68, x69, x70, x71, x72, x73, x74, x75, x76, x77, x78, x79, x80, x81, x82, x83, x84, x85, x86, x87, x88, x89, x90, x91, x92, yz0, yz1, yz2, yz3, Option.some.injEq, exists_eq_left', exists_eq_left, exists_and_left, V.ref.injEq, V.int.injEq, V.fn.injEq, V.bool.injEq, Ob.lst.injEq, Ob.tup.injEq, decide_eq_true_eq, decide_eq_false_iff_not, Bool.not_eq_true', Bool.not_eq_false', Bool.not_true, Bool.not_false, List.length_map, yz4, yz5, yz6, yz7, yz8, yz9, yz10, yz11, true_and, and_true, reduceCtorEq, Bool.false_eq_true, Bool.true_eq_false, if_true, if_false, false_implies, true_implies, forall_const, and_self, false_and, and_false, or_false, false_or, implies_true, Nat.reduceAdd, Nat.reduceSub, ne_eq, not_true_eq_false, not_false_eq_true, Nat.zero_le, exists_eq', exists_eq, Int.toNat_natCast, AH.set_self, List.cons.injEq, ht]
  refine plain_of_ok (by exact o412 hn) hw hr (by exact o416 hb.2 hrm.1 hrm.2) fun H₃ s₃ => ?_
  refine ⟨l2, fun c₄ hc₄ => ?_⟩
  have t₁ := s₁.trans s₂
  have t₂ := t₁.trans s₃
  exact h c₄ c₂ _ (t₂.none hc₄) (s₁.none hc₂) (t₂.set (t₂.none hc₄)) AH.set_self ((Sub.new hc₄).il (s₃.il hq))
theorem digits_plain_ok {n w : Nat} (hn : 7 ≤ n) (hw : WOk w B) {H : AH} {a : Nat} {x b : Int} {Q : PQ} (ha : IL H a (limbs B x)) (hx : 0 ≤ x ∧ x < 2 ^ 64) (hb : 2 ≤ b ∧ b < 2 ^ 20) (h : Ret H (limbs b x).reverse Q) :
    callS theDefs n 12 [.ref a, .int b, .int w, .fn 27] H Q := by
  refine call_of (by exact o417 hn) rfl rfl ?_
  have hB := hw.two
  have hl := len_lim hb.1 hx.1 hx.2
  have l0 : 0 ≤ lim := by exact o180
  simp only [x0, x1, x2, x3, x4, x5, x6, x7, x9, x10, x11, x12, x13, x14, x15, x16, x17, x18, x19, x20, x21, x22, x23, x27, x28, x29, x30, x31, x32, x33, x34, x35, x36, x37, x38, x39, x40, x41, x42, x43, x44, x49, x50, x51, x52, x53, forR_eq, forL_eq, forE_eq, idx_eq, x54, x55, x56, x57, x58, x59, x60, x61, x62, x63, x64, x65, x66, x67, x68, x69, x70, x71, x72, x73, x74, x75, x76, x77, x78, x79, x80, x81, x82, x83, x84, x85, x86, x87, x88, x89, x90, x91, x92, yz0, yz1, yz2, yz3, Option.some.injEq, exists_eq_left', exists_eq_left, exists_and_left, V.ref.injEq, V.int.injEq, V.fn.injEq, V.bool.injEq, Ob.lst.injEq, Ob.tup.injEq, decide_eq_true_eq, decide_eq_false_iff_not, Bool.not_eq_true', Bool.not_eq_false', Bool.not_true, Bool.not_false, List.length_map, yz4, yz5, yz6, yz7, yz8, yz9, yz10, yz11, true_and, and_true, reduceCtorEq, Bool.false_eq_true, Bool.true_eq_false, if_true, if_false, false_implies, true_implies, forall_const, and_self, false_and, and_false, or_false, false_or, implies_true, Nat.reduceAdd, Nat.reduceSub, ne_eq, not_true_eq_false, not_false_eq_true, Nat.zero_le, exists_eq', exists_eq, Int.toNat_natCast, AH.set_self, List.cons.injEq, f_digits_plain]
  intro c hc
  obtain ⟨I, hI⟩ : ∃ I : Nat → Loc → AH → Prop, I = fun k l H' => ∃ a' m fs z, l = [some (.ref a'), some (.int b), some (.int w), some (.fn 27), some (.ref c), z] ∧ Sub H H' ∧ IL H' c fs ∧ IL H' a' (limbs B m) ∧ 0 ≤ m ∧ m ≤ x ∧ m.toNat = k ∧ fs ++ limbs b m = limbs b x := ⟨_, rfl⟩
  refine whl_in I x.toNat (by rw [hI]; exact ⟨a, x, [], _, rfl, .new hc, il_set (xs := []), (Sub.new hc).il ha, hx.1, by exact o259, rfl, rfl⟩) fun k l H' hk => ?_
  rw [hI] at hk
  obtain ⟨a', m, fs, z, rfl, hs, hf, ha', hm, hmx, rfl, he⟩ := hk
  have hfl : fs.length ≤ lim := lim_small (by have := congrArg List.length he; rw [List.length_append] at this; exact o418 hl this)
  have ha'' : H' a' = some (.lst ((limbs B m).map V.int)) := ha'
  have lm := lim_small (show (limbs B m).length ≤ 1000 by have := len_lim hB hm (by exact o419 hx.2 hmx : m < 2 ^ 64); exact o377 this)
  simp only [x0, x1, x2, x3, x4, x5, x6, x7, x9, x10, x11, x12, x13, x14, x15, x16, x17, x18, x19, x20, x21, x22, x23, x27, x28, x29, x30, x31, x32, x33, x34, x35, x36, x37, x38, x39, x40, x41, x42, x43, x44, x49, x50, x51, x52, x53, forR_eq, forL_eq, forE_eq, idx_eq, x54, x55, x56, x57, x58, x59, x60, x61, x62, x63, x64, x65, x66, x67, x68, x69, x70, x71, x72, x73, x74, x75, x76, x77, x78, x79, x80, x81, x82, x83, x84, x85, x86, x87, x88, x89, x90, x91, x92, yz0, yz1, yz2, yz3, Option.some.injEq, exists_eq_left', exists_eq_left, exists_and_left, V.ref.injEq, V.int.injEq, V.fn.injEq, V.bool.injEq, Ob.lst.injEq, Ob.tup.injEq, decide_eq_true_eq, decide_eq_false_iff_not, Bool.not_eq_true', Bool.not_eq_false', Bool.not_true, Bool.not_false, List.length_map, yz4, yz5, yz6, yz7, yz8, yz9, yz10, yz11, true_and, and_true, reduceCtorEq, Bool.false_eq_true, Bool.true_eq_false, if_true, if_false, false_implies, true_implies, forall_const, and_self, false_and, and_false, or_false, false_or, implies_true, Nat.reduceAdd, Nat.reduceSub, ne_eq, not_true_eq_false, not_false_eq_true, Nat.zero_le, exists_eq', exists_eq, Int.toNat_natCast, AH.set_self, List.cons.injEq, ha'', lm]
  refine ⟨fun h0 => ?_, fun h0 => ?_⟩
  · have hm0 : 0 < m := by
      rcases Int.lt_or_eq_of_le hm with q | q
      · exact q
      · rw [← q, limbs_zero] at h0; simp at h0
    refine digit_off_ok (by exact o420 hn) hw ha' (by exact o421 hx.2 hmx hm0) hb fun c₁ c₂ H₁ hc₁ hc₂ s₁ ht hq => ?_
    have hf₁ := s₁.il hf
    have hf₁' : H₁ c = some (.lst (fs.map V.int)) := hf₁
    simp only [x0, x1, x2, x3, x4, x5, x6, x7, x9, x10, x11, x12, x13, x14, x15, x16, x17, x18, x19, x20, x21, x22, x23, x27, x28, x29, x30, x31, x32, x33, x34, x35, x36, x37, x38, x39, x40, x41, x42, x43, x44, x49, x50, x51, x52, x53, forR_eq, forL_eq, forE_eq, idx_eq, x54, x55, x56, x57, x58, x59, x60, x61, x62, x63, x64, x65, x66, x67, x68, x69, x70, x71, x72, x73, x74, x75, x76, x77, x78, x79, x80, x81, x82, x83, x84, x85, x86, x87, x88, x89, x90, x91, x92, yz0, yz1, yz2, yz3, Option.some.injEq, exists_eq_left', exists_eq_left, exists_and_left, V.ref.injEq, V.int.injEq, V.fn.injEq, V.bool.injEq, Ob.lst.injEq, Ob.tup.injEq, decide_eq_true_eq, decide_eq_false_iff_not, Bool.not_eq_true', Bool.not_eq_false', Bool.not_true, Bool.not_false, List.length_map, yz4, yz5, yz6, yz7, yz8, yz9, yz10, yz11, true_and, and_true, reduceCtorEq, Bool.false_eq_true, Bool.true_eq_false, if_true, if_false, false_implies, true_implies, forall_const, and_self, false_and, and_false, or_false, false_or, implies_true, Nat.reduceAdd, Nat.reduceSub, ne_eq, not_true_eq_false, not_false_eq_true, Nat.zero_le, exists_eq', exists_eq, Int.toNat_natCast, AH.set_self, List.cons.injEq, ht, hf₁', hfl]
    have hd := ediv_lt_self hm0 hb.1
    refine ⟨(m / b).toNat, by exact o77 hm0 hd.2, ?_⟩
    rw [hI]
    have hne : c₂ ≠ c := fun q => by rw [q] at hc₂; unfold IL at hf; rw [hf] at hc₂; cases hc₂
    refine ⟨c₂, m / b, fs ++ [m % b], _, rfl, (hs.trans s₁).set hc, by simpa using il_set (H := H₁) (c := c) (xs := fs ++ [m % b]), ?_, hd.1, by exact o422 hmx hd.2, rfl, ?_⟩
    · show (H₁.set c _) c₂ = _
      rw [AH.set_ne hne]; exact hq
    · rw [List.append_assoc, ← he, limbs_pos hm0 hb.1]; rfl
  · have : m = 0 := (limbs_eq_nil hB hm).mp (List.length_eq_zero_iff.mp (by exact o136 h0))
    subst this
    rw [limbs_zero, List.append_nil] at he
    have hf' : H' c = some (.lst (fs.map V.int)) := hf
    simp only [x0, x1, x2, x3, x4, x5, x6, x7, x9, x10, x11, x12, x13, x14, x15, x16, x17, x18, x19, x20, x21, x22, x23, x27, x28, x29, x30, x31, x32, x33, x34, x35, x36, x37, x38, x39, x40, x41, x42, x43, x44, x49, x50, x51, x52, x53, forR_eq, forL_eq, forE_eq, idx_eq, x54, x55, x56, x57, x58, x59, x60, x61, x62, x63, x64, x65, x66, x67, x68, x69, x70, x71, x72, x73, x74, x75, x76, x77, x78, x79, x80, x81, x82, x83, x84, x85, x86, x87, x88, x89, x90, x91, x92, yz0, yz1, yz2, yz3, Option.some.injEq, exists_eq_left', exists_eq_left, exists_and_left, V.ref.injEq, V.int.injEq, V.fn.injEq, V.bool.injEq, Ob.lst.injEq, Ob.tup.injEq, decide_eq_true_eq, decide_eq_false_iff_not, Bool.not_eq_true', Bool.not_eq_false', Bool.not_true, Bool.not_false, List.length_map, yz4, yz5, yz6, yz7, yz8, yz9, yz10, yz11, true_and, and_true, reduceCtorEq, Bool.false_eq_true, Bool.true_eq_false, if_true, if_false, false_implies, true_implies, forall_const, and_self, false_and, and_false, or_false, false_or, implies_true, Nat.reduceAdd, Nat.reduceSub, ne_eq, not_true_eq_false, not_false_eq_true, Nat.zero_le, exists_eq', exists_eq, Int.toNat_natCast, AH.set_self, List.cons.injEq, hf', hfl]
    refine h c _ hc (hs.set hc) ?_
    rw [← he]
    simpa [List.map_reverse] using il_set (H := H') (c := c) (xs := fs.reverse)
noncomputable def PL (B b : Int) (H : AH) (c : Nat) (k : Nat) : Prop := ∃ rs : List Nat, H c = some (.lst (rs.map V.ref)) ∧ rs.length = k ∧ k ≤ 64 ∧ ∀ i r, rs[i]? = some r → IL H r (limbs B (b ^ (2 ^ i))) ∧ b ^ (2 ^ i) < 2 ^ 64
theorem PL.sub {b : Int} {H H' : AH} {c k : Nat} (s : Sub H H') (h : PL B b H c k) : PL B b H' c k :=
  let ⟨rs, h1, h2, h3, h4⟩ := h; ⟨rs, s _ _ h1, h2, h3, fun i r e => ⟨s.il (h4 i r e).1, (h4 i r e).2⟩⟩
theorem bin_refs {rs : List Nat} {y : Nat} : rs.map V.ref ++ [V.ref y] = (rs ++ [y]).map V.ref := by simp
theorem base_powers_ok {n w : Nat} (hn : 3 ≤ n) (hw : WOk w B) {H : AH} {a : Nat} {x b : Int} {Q : PQ} (ha : IL H a (limbs B x)) (hx : 0 ≤ x ∧ x < 2 ^ 32) (hb : 2 ≤ b ∧ b < 2 ^ 20)
    (h : ∀ c k H', H c = none → Sub H H' → PL B b H' c k → x < b ^ (2 ^ k) → Q (.ref c) H') : callS theDefs n 13 [.ref a, .int b, .int w, .fn 21] H Q := by
  refine call_of (by exact o252 hn) rfl rfl ?_
  have hB := hw.two
  have hx64 : 0 ≤ x ∧ x < 2 ^ 64 := by exact o423 hx.1 hx.2
  have l0 : 0 ≤ lim := by exact o180
  simp only [x0, x1, x2, x3, x4, x5, x6, x7, x9, x10, x11, x12, x13, x14, x15, x16, x17, x18, x19, x20, x21, x22, x23, x27, x28, x29, x30, x31, x32, x33, x34, x35, x36, x37, x38, x39, x40, x41, x42, x43, x44, x49, x50, x51, x52, x53, forR_eq, forL_eq, forE_eq, idx_eq, x54, x55, x56, x57, x58, x59, x60, x61, x62, x63, x64, x65, x66, x67, x68, x69, x70, x71, x72, x73, x74, x75, x76, x77, x78, x79, x80, x81, x82, x83, x84, x85, x86, x87, x88, x89, x90, x91, x92, yz0, yz1, yz2, yz3, Option.some.injEq, exists_eq_left', exists_eq_left, exists_and_left, V.ref.injEq, V.int.injEq, V.fn.injEq, V.bool.injEq, Ob.lst.injEq, Ob.tup.injEq, decide_eq_true_eq, decide_eq_false_iff_not, Bool.not_eq_true', Bool.not_eq_false', Bool.not_true, Bool.not_false, List.length_map, yz4, yz5, yz6, yz7, yz8, yz9, yz10, yz11, true_and, and_true, reduceCtorEq, Bool.false_eq_true, Bool.true_eq_false, if_true, if_false, false_implies, true_implies, forall_const, and_self, false_and, and_false, or_false, false_or, implies_true, Nat.reduceAdd, Nat.reduceSub, ne_eq, not_true_eq_false, not_false_eq_true, Nat.zero_le, exists_eq', exists_eq, Int.toNat_natCast, AH.set_self, List.cons.injEq, f_base_powers]
  intro c hc
  refine nat_of_ok (by exact o424 hn) hw (show 0 ≤ b by exact o76 hb.1) (by exact o413 hb.2) fun c₁ H₁ hc₁ s₁ h₁ => ?_
  have hc₁' : H₁ c = some (.lst []) := s₁ _ _ AH.set_self
  try simp only [x0, x1, x2, x3, x4, x5, x6, x7, x9, x10, x11, x12, x13, x14, x15, x16, x17, x18, x19, x20, x21, x22, x23, x27, x28, x29, x30, x31, x32, x33, x34, x35, x36, x37, x38, x39, x40, x41, x42, x43, x44, x49, x50, x51, x52, x53, forR_eq, forL_eq, forE_eq, idx_eq, x54, x55, x56, x57, x58, x59, x60, x61, x62, x63, x64, x65, x66, x67, x68, x69, x70, x71, x72, x73, x74, x75, x76, x77, x78, x79, x80, x81, x82, x83, x84, x85, x86, x87, x88, x89, x90, x91, x92, yz0, yz1, yz2, yz3, Option.some.injEq, exists_eq_left', exists_eq_left, exists_and_left, V.ref.injEq, V.int.injEq, V.fn.injEq, V.bool.injEq, Ob.lst.injEq, Ob.tup.injEq, decide_eq_true_eq, decide_eq_false_iff_not, Bool.not_eq_true', Bool.not_eq_false', Bool.not_true, Bool.not_false, List.length_map, yz4, yz5, yz6, yz7, yz8, yz9, yz10, yz11, true_and, and_true, reduceCtorEq, Bool.false_eq_true, Bool.true_eq_false, if_true, if_false, false_implies, true_implies, forall_const, and_self, false_and, and_false, or_false, false_or, implies_true, Nat.reduceAdd, Nat.reduceSub, ne_eq, not_true_eq_false, not_false_eq_true, Nat.zero_le, exists_eq', exists_eq, Int.toNat_natCast, AH.set_self, List.cons.injEq]
  obtain ⟨I, hI⟩ : ∃ I : Nat → Loc → AH → Prop, I = fun k l H' => ∃ (rs : List Nat) (r : Nat) (p : Int), l = [some (.ref a), some (.int b), some (.int w), some (.fn 21), some (.ref c), some (.ref r)] ∧ Sub H H' ∧ H' c = some (.lst (rs.map V.ref)) ∧ (∀ i r, rs[i]? = some r → r ≠ c ∧ IL H' r (limbs B (b ^ (2 ^ i))) ∧ b ^ (2 ^ i) < 2 ^ 64) ∧ r ≠ c ∧ IL H' r (limbs B p) ∧
      p = b ^ (2 ^ rs.length) ∧ 2 ^ rs.length < p ∧ p < 2 ^ 64 ∧ rs.length ≤ 32 ∧ k = (x + 1 - p).toNat := ⟨_, rfl⟩
  have hcc : c₁ ≠ c := fun q => by rw [q, AH.set_self] at hc₁; cases hc₁
  refine whl_in I (x + 1 - b).toNat (by rw [hI]; exact ⟨[], c₁, b, rfl, (Sub.new hc).trans s₁, hc₁', fun i r e => by simp at e, hcc, h₁, by simp [Int.pow_succ], by simp; exact o425 hb.1, by exact o413 hb.2, by simp, rfl⟩) fun k l H' hk => ?_
  rw [hI] at hk
  obtain ⟨rs, r, p, rfl, hs, hf, hrs, hrc, hr, hp, hp1, hp2, hl, rfl⟩ := hk
  have hp0 : 0 < p := by have : (0 : Int) < 2 ^ rs.length := Int.pow_pos (by decide)
                         exact o426 hp1 this
  have hfl : rs.length ≤ lim := lim_small (by exact o427 hl)
  try simp only [x0, x1, x2, x3, x4, x5, x6, x7, x9, x10, x11, x12, x13, x14, x15, x16, x17, x18, x19, x20, x21, x22, x23, x27, x28, x29, x30, x31, x32, x33, x34, x35, x36, x37, x38, x39, x40, x41, x42, x43, x44, x49, x50, x51, x52, x53, forR_eq, forL_eq, forE_eq, idx_eq, x54, x55, x56, x57, x58, x59, x60, x61, x62, x63, x64, x65, x66, x67, x68, x69, x70, x71, x72, x73, x74, x75, x76, x77, x78, x79, x80, x81, x82, x83, x84, x85, x86, x87, x88, x89, x90, x91, x92, yz0, yz1, yz2, yz3, Option.some.injEq, exists_eq_left', exists_eq_left, exists_and_left, V.ref.injEq, V.int.injEq, V.fn.injEq, V.bool.injEq, Ob.lst.injEq, Ob.tup.injEq, decide_eq_true_eq, decide_eq_false_iff_not, Bool.not_eq_true', Bool.not_eq_false', Bool.not_true, Bool.not_false, List.length_map, yz4, yz5, yz6, yz7, yz8, yz9, yz10, yz11, true_and, and_true, reduceCtorEq, Bool.false_eq_true, Bool.true_eq_false, if_true, if_false, false_implies, true_implies, forall_const, and_self, false_and, and_false, or_false, false_or, implies_true, Nat.reduceAdd, Nat.reduceSub, ne_eq, not_true_eq_false, not_false_eq_true, Nat.zero_le, exists_eq', exists_eq, Int.toNat_natCast, AH.set_self, List.cons.injEq]
  refine compare_ok (by exact o424 hn) hw hr (hs.il ha) (by exact o428 hp2 hp0) hx64 ?_
  try simp only [x0, x1, x2, x3, x4, x5, x6, x7, x9, x10, x11, x12, x13, x14, x15, x16, x17, x18, x19, x20, x21, x22, x23, x27, x28, x29, x30, x31, x32, x33, x34, x35, x36, x37, x38, x39, x40, x41, x42, x43, x44, x49, x50, x51, x52, x53, forR_eq, forL_eq, forE_eq, idx_eq, x54, x55, x56, x57, x58, x59, x60, x61, x62, x63, x64, x65, x66, x67, x68, x69, x70, x71, x72, x73, x74, x75, x76, x77, x78, x79, x80, x81, x82, x83, x84, x85, x86, x87, x88, x89, x90, x91, x92, yz0, yz1, yz2, yz3, Option.some.injEq, exists_eq_left', exists_eq_left, exists_and_left, V.ref.injEq, V.int.injEq, V.fn.injEq, V.bool.injEq, Ob.lst.injEq, Ob.tup.injEq, decide_eq_true_eq, decide_eq_false_iff_not, Bool.not_eq_true', Bool.not_eq_false', Bool.not_true, Bool.not_false, List.length_map, yz4, yz5, yz6, yz7, yz8, yz9, yz10, yz11, true_and, and_true, reduceCtorEq, Bool.false_eq_true, Bool.true_eq_false, if_true, if_false, false_implies, true_implies, forall_const, and_self, false_and, and_false, or_false, false_or, implies_true, Nat.reduceAdd, Nat.reduceSub, ne_eq, not_true_eq_false, not_false_eq_true, Nat.zero_le, exists_eq', exists_eq, Int.toNat_natCast, AH.set_self, List.cons.injEq]
  refine ⟨fun hle => ?_, fun hle => ?_⟩
  · have hpx : p ≤ x := by unfold cmpVal at hle; split at hle; · exact o303 (by assumption)
                           · split at hle <;> (first | exact o429 (by assumption) | exact o430 hle)
    have hl32 : rs.length < 32 := by
      rcases Nat.lt_or_ge rs.length 32 with z | z
      · exact z
      · have := pow_le (B := 2) (by decide) z; exact o431 hx.2 hp1 hpx this
    simp only [x0, x1, x2, x3, x4, x5, x6, x7, x9, x10, x11, x12, x13, x14, x15, x16, x17, x18, x19, x20, x21, x22, x23, x27, x28, x29, x30, x31, x32, x33, x34, x35, x36, x37, x38, x39, x40, x41, x42, x43, x44, x49, x50, x51, x52, x53, forR_eq, forL_eq, forE_eq, idx_eq, x54, x55, x56, x57, x58, x59, x60, x61, x62, x63, x64, x65, x66, x67, x68, x69, x70, x71, x72, x73, x74, x75, x76, x77, x78, x79, x80, x81, x82, x83, x84, x85, x86, x87, x88, x89, x90, x91, x92, yz0, yz1, yz2, yz3, Option.some.injEq, exists_eq_left', exists_eq_left, exists_and_left, V.ref.injEq, V.int.injEq, V.fn.injEq, V.bool.injEq, Ob.lst.injEq, Ob.tup.injEq, decide_eq_true_eq, decide_eq_false_iff_not, Bool.not_eq_true', Bool.not_eq_false', Bool.not_true, Bool.not_false, List.length_map, yz4, yz5, yz6, yz7, yz8, yz9, yz10, yz11, true_and, and_true, reduceCtorEq, Bool.false_eq_true, Bool.true_eq_false, if_true, if_false, false_implies, true_implies, forall_const, and_self, false_and, and_false, or_false, false_or, implies_true, Nat.reduceAdd, Nat.reduceSub, ne_eq, not_true_eq_false, not_false_eq_true, Nat.zero_le, exists_eq', exists_eq, Int.toNat_natCast, AH.set_self, List.cons.injEq, hf, hfl]
    have hH₂ := hs.set (c := c) (ob := .lst (rs.map V.ref ++ [V.ref r])) hc
    have hr₂ : IL (H'.set c (.lst (rs.map V.ref ++ [V.ref r]))) r (limbs B p) := by show (H'.set c _) r = _; rw [AH.set_ne hrc]; exact hr
    have hrs₃ : ∀ i q, rs[i]? = some q → q ≠ c ∧ IL (H'.set c (.lst (rs.map V.ref ++ [V.ref r]))) q (limbs B (b ^ (2 ^ i))) ∧ b ^ (2 ^ i) < 2 ^ 64 := fun i q e => ⟨(hrs i q e).1, by show (H'.set c _) q = _; rw [AH.set_ne (hrs i q e).1]; exact (hrs i q e).2.1, (hrs i q e).2.2⟩
    have hcs : (H'.set c (.lst (rs.map V.ref ++ [V.ref r]))) c = some (.lst ((rs ++ [r]).map V.ref)) := by rw [AH.set_self, bin_refs]
    generalize H'.set c (.lst (rs.map V.ref ++ [V.ref r])) = H₂ at *
    refine mul_school_ok (by exact o253 hn) hw hr₂ hr₂ (by exact o428 hp2 hp0) (by exact o428 hp2 hp0) fun c₂ H₃ hc₂ s₃ h₃ => ?_
    have hp1' : (0 : Int) < 2 ^ rs.length := Int.pow_pos (by decide)
    have hpp : 2 * p ≤ p * p := Int.mul_le_mul_of_nonneg_right (by exact o432 hp1 hp1') (by exact o96 hp0)
    have hpp2 : p * p ≤ 2 ^ 32 * 2 ^ 32 := Int.mul_le_mul (by exact o433 hx.2 hpx) (by exact o433 hx.2 hpx) (by exact o96 hp0) (by decide)
    have hpp3 : p * p < 2 ^ 64 := by
      have : p * p ≤ (2 ^ 32 - 1) * (2 ^ 32 - 1) := Int.mul_le_mul (by exact o434 hx.2 hpx) (by exact o434 hx.2 hpx) (by exact o96 hp0) (by decide)
      exact o435 this
    refine ⟨(x + 1 - p * p).toNat, by exact o436 hp0 hpx hpp, ?_⟩
    rw [hI]
    refine ⟨rs ++ [r], c₂, p * p, rfl, hH₂.trans s₃, s₃ _ _ hcs, fun i q e => ?_, (fun q => by rw [q, hcs] at hc₂; cases hc₂), h₃, ?_, ?_, hpp3, by simp; exact o437 hl32, rfl⟩
    · rw [List.getElem?_append] at e
      split at e
      · exact ⟨(hrs₃ i q e).1, s₃.il (hrs₃ i q e).2.1, (hrs₃ i q e).2.2⟩
      · have hi : i = rs.length := by
          rename_i hge
          rcases Nat.lt_or_ge (i - rs.length) 1 with z | z
          · exact o438 hge z
          · rw [List.getElem?_eq_none (by simpa using z)] at e; cases e
        subst hi
        simp at e
        subst e
        exact ⟨hrc, hp ▸ s₃.il hr₂, by rw [← hp]; exact hp2⟩
    · rw [List.length_append, List.length_singleton, Nat.pow_succ, Int.pow_mul, ← hp]
      show p * p = p ^ 2
      rw [Int.pow_succ, Int.pow_succ]; simp
    · rw [List.length_append, List.length_singleton, Int.pow_succ]; exact o439 hp1 hpp
  · have hpx : x < p := by unfold cmpVal at hle; split at hle; · simp at hle
                           · split at hle; · simp at hle
                             · exact o440 (by assumption) (by assumption)
    exact h c rs.length H' hc hs ⟨rs, hf, rfl, by exact o441 hl, fun i r e => (hrs i r e).2⟩ (hp ▸ hpx)
theorem with_noughts_ok {n : Nat} (hn : 1 ≤ n) {H : AH} {a m : Nat} {ds : List Int} {Q : PQ} (ha : IL H a ds) (hd : ds.length ≤ 1000) (hm : m ≤ 1000) (h : Ret H (List.replicate (m - ds.length) 0 ++ ds) Q) : callS theDefs n 14 [.ref a, .int (m : Int)] H Q := by
  refine call_of hn rfl rfl ?_
  have l1 : 0 + 1 ≤ lim := le_lim (by simp)
  have hdl := lim_small hd
  have z1 : -(lim : Int) ≤ (m : Int) - (ds.length : Int) := by unfold lim; exact o442 hd
  have z2 : (m : Int) - (ds.length : Int) ≤ (lim : Int) := by unfold lim; exact o443 hm
  have z3 : ((m : Int) - (ds.length : Int)).toNat = m - ds.length := by exact o125
  simp only [x0, x1, x2, x3, x4, x5, x6, x7, x9, x10, x11, x12, x13, x14, x15, x16, x17, x18, x19, x20, x21, x22, x23, x27, x28, x29, x30, x31, x32, x33, x34, x35, x36, x37, x38, x39, x40, x41, x42, x43, x44, x49, x50, x51, x52, x53, forR_eq, forL_eq, forE_eq, idx_eq, x54, x55, x56, x57, x58, x59, x60, x61, x62, x63, x64, x65, x66, x67, x68, x69, x70, x71, x72, x73, x74, x75, x76, x77, x78, x79, x80, x81, x82, x83, x84, x85, x86, x87, x88, x89, x90, x91, x92, yz0, yz1, yz2, yz3, Option.some.injEq, exists_eq_left', exists_eq_left, exists_and_left, V.ref.injEq, V.int.injEq, V.fn.injEq, V.bool.injEq, Ob.lst.injEq, Ob.tup.injEq, decide_eq_true_eq, decide_eq_false_iff_not, Bool.not_eq_true', Bool.not_eq_false', Bool.not_true, Bool.not_false, List.length_map, yz4, yz5, yz6, yz7, yz8, yz9, yz10, yz11, true_and, and_true, reduceCtorEq, Bool.false_eq_true, Bool.true_eq_false, if_true, if_false, false_implies, true_implies, forall_const, and_self, false_and, and_false, or_false, false_or, implies_true, Nat.reduceAdd, Nat.reduceSub, ne_eq, not_true_eq_false, not_false_eq_true, Nat.zero_le, exists_eq', exists_eq, Int.toNat_natCast, AH.set_self, List.cons.injEq, f_with_noughts, l1]
  intro c₁ hc₁
  have s₁ := Sub.new (ob := .lst [V.int 0]) hc₁
  have ha₁ : (H.set c₁ (.lst [V.int 0])) a = some (.lst (ds.map V.int)) := s₁.il ha
  simp only [x0, x1, x2, x3, x4, x5, x6, x7, x9, x10, x11, x12, x13, x14, x15, x16, x17, x18, x19, x20, x21, x22, x23, x27, x28, x29, x30, x31, x32, x33, x34, x35, x36, x37, x38, x39, x40, x41, x42, x43, x44, x49, x50, x51, x52, x53, forR_eq, forL_eq, forE_eq, idx_eq, x54, x55, x56, x57, x58, x59, x60, x61, x62, x63, x64, x65, x66, x67, x68, x69, x70, x71, x72, x73, x74, x75, x76, x77, x78, x79, x80, x81, x82, x83, x84, x85, x86, x87, x88, x89, x90, x91, x92, yz0, yz1, yz2, yz3, Option.some.injEq, exists_eq_left', exists_eq_left, exists_and_left, V.ref.injEq, V.int.injEq, V.fn.injEq, V.bool.injEq, Ob.lst.injEq, Ob.tup.injEq, decide_eq_true_eq, decide_eq_false_iff_not, Bool.not_eq_true', Bool.not_eq_false', Bool.not_true, Bool.not_false, List.length_map, yz4, yz5, yz6, yz7, yz8, yz9, yz10, yz11, true_and, and_true, reduceCtorEq, Bool.false_eq_true, Bool.true_eq_false, if_true, if_false, false_implies, true_implies, forall_const, and_self, false_and, and_false, or_false, false_or, implies_true, Nat.reduceAdd, Nat.reduceSub, ne_eq, not_true_eq_false, not_false_eq_true, Nat.zero_le, exists_eq', exists_eq, Int.toNat_natCast, AH.set_self, List.cons.injEq, ha₁, hdl, z1, z2, z3]
  intro c₂ hc₂
  have s₂ := s₁.set (c := c₂) (ob := .lst (List.replicate (m - ds.length) (V.int 0))) (s₁.none hc₂)
  have ha₂ : ((H.set c₁ (.lst [V.int 0])).set c₂ (.lst (List.replicate (m - ds.length) (V.int 0)))) a = some (.lst (ds.map V.int)) := s₂.il ha
  have l2 : m - ds.length + ds.length ≤ lim := lim_small (by exact o444 hd hm)
  simp only [x0, x1, x2, x3, x4, x5, x6, x7, x9, x10, x11, x12, x13, x14, x15, x16, x17, x18, x19, x20, x21, x22, x23, x27, x28, x29, x30, x31, x32, x33, x34, x35, x36, x37, x38, x39, x40, x41, x42, x43, x44, x49, x50, x51, x52, x53, forR_eq, forL_eq, forE_eq, idx_eq, x54, x55, x56, x57, x58, x59, x60, x61, x62, x63, x64, x65, x66, x67, x68, x69, x70, x71, x72, x73, x74, x75, x76, x77, x78, x79, x80, x81, x82, x83, x84, x85, x86, x87, x88, x89, x90, x91, x92, yz0, yz1, yz2, yz3, Option.some.injEq, exists_eq_left', exists_eq_left, exists_and_left, V.ref.injEq, V.int.injEq, V.fn.injEq, V.bool.injEq, Ob.lst.injEq, Ob.tup.injEq, decide_eq_true_eq, decide_eq_false_iff_not, Bool.not_eq_true', Bool.not_eq_false', Bool.not_true, Bool.not_false, List.length_map, yz4, yz5, yz6, yz7, yz8, yz9, yz10, yz11, true_and, and_true, reduceCtorEq, Bool.false_eq_true, Bool.true_eq_false, if_true, if_false, false_implies, true_implies, forall_const, and_self, false_and, and_false, or_false, false_or, implies_true, Nat.reduceAdd, Nat.reduceSub, ne_eq, not_true_eq_false, not_false_eq_true, Nat.zero_le, exists_eq', exists_eq, Int.toNat_natCast, AH.set_self, List.cons.injEq, ha₂, List.length_replicate, l2]
  intro c hc
  refine h c _ (s₂.none hc) (s₂.set (s₂.none hc)) ?_
  unfold IL
  rw [AH.set_self]; simp
end Mine
end
section
open PySem PySem.Calls PySem.W PyProof.Rows
set_option maxRecDepth 100000
namespace Mine
variable {B : Int} {Φ : Phi}
theorem idx_lastR {H : AH} {r : Nat} {rs : List Nat} {y : Nat} {Q : PQ} (h : H r = some (.lst (rs.map V.ref))) (hl : rs.length ≤ lim) (hx : rs.getLast? = some y) (q : Q (.ref y) H) : idxS (.ref r) (.int (-1)) H Q :=
  ⟨r, -1, _, _, rfl, rfl, h, by simpa using hl, .inr ⟨rfl, by rw [List.getLast?_map, hx]; rfl⟩, q⟩
theorem idx_natR {H : AH} {r : Nat} {rs : List Nat} {k : Int} (i : Nat) {y : Nat} {Q : PQ} (h : H r = some (.lst (rs.map V.ref))) (hl : rs.length ≤ lim) (hk : k = (i : Int)) (hx : rs[i]? = some y) (q : Q (.ref y) H) : idxS (.ref r) (.int k) H Q :=
  ⟨r, k, _, _, rfl, rfl, h, by simpa using hl, .inl ⟨by exact o132 hk, by subst hk; rw [Int.toNat_natCast, List.getElem?_map, hx]; rfl⟩, q⟩
theorem cut_less {H : AH} {a : Nat} {rs : List Nat} {Q : PQ} (h : H a = some (.lst (rs.map V.ref))) (hl : rs.length ≤ lim) (h0 : 0 < rs.length)
    (q : ∀ c, H c = none → Q (.ref c) (H.set c (.lst ((rs.take (rs.length - 1)).map V.ref)))) : cutS (.ref a) none (some (-1)) H Q := by
  refine ⟨_, .inl h, by simpa using hl, fun c hc => ?_⟩
  have e : clipAt rs.length (-1) = rs.length - 1 := by unfold clipAt; rw [if_pos (by decide)]; exact o445
  have := q c hc
  simpa [e, List.map_take] using this
theorem limbs_split {b : Int} (hb : 2 ≤ b) {lo hi : Int} {m : Nat} (hlo : 0 ≤ lo ∧ lo < b ^ m) (hhi : 0 < hi) : limbs b (lo + b ^ m * hi) = limbs b lo ++ List.replicate (m - (limbs b lo).length) 0 ++ limbs b hi := by
  have hl := limbs_len hb m lo hlo.1 hlo.2
  have L : Lim b (limbs b lo ++ List.replicate (m - (limbs b lo).length) 0 ++ limbs b hi) := ((limbs_lim hb lo hlo.1).append (.zeros (by exact o74 hb) _)).append (limbs_lim hb hi (by exact o96 hhi))
  have hne : limbs b hi ≠ [] := fun e => by have := (limbs_eq_nil hb (by exact o96 hhi)).mp e; exact o208 hhi this
  have e := limbs_of hb L (by rw [List.getLast?_append]; cases q : (limbs b hi).getLast? with
    | none => exact absurd (List.getLast?_eq_none_iff.mp q) hne
    | some z => simp; intro hz; exact limbs_last hb hi (by exact o96 hhi) (by rw [q, hz]))
  rw [e, val_append, val_append, val_replicate, limbs_val hb lo hlo.1, limbs_val hb hi (by exact o96 hhi), List.length_append, List.length_replicate, show (limbs b lo).length + (m - (limbs b lo).length) = m by exact o62 hl]
  congr 1
  exact o446
theorem digits_by_powers_ok {w : Nat} (hw : WOk w B) {b : Int} (hb : 2 ≤ b ∧ b < 2 ^ 20) {least : Int} : ∀ (k n : Nat), 8 + k ≤ n → ∀ {H : AH} {a pc : Nat} {x : Int} {Q : PQ}, IL H a (limbs B x) → (0 ≤ x ∧ x < 2 ^ 32) → PL B b H pc k →
    (x < b ^ (2 ^ k) ∨ ((limbs B x).length : Int) ≤ least) → Ret H (limbs b x).reverse Q → callS theDefs n 15 [.ref a, .ref pc, .int b, .int w, .int least, .fn 27] H Q := by
  intro k
  induction k with
  | zero =>
    intro n hn H a pc x Q ha hx hp hxk h
    refine call_of (by exact o447 hn) rfl rfl ?_
    obtain ⟨rs, h1, h2, h3, h4⟩ := hp
    have ha' : H a = some (.lst ((limbs B x).map V.int)) := ha
    have la' := lim_small (show (limbs B x).length ≤ 1000 by have := len_lim hw.two hx.1 (by exact o448 hx.2 : x < 2 ^ 64); exact o377 this)
    have lr := lim_small (show rs.length ≤ 1000 by exact o449 h2)
    have h2' : (rs.length : Int) = 0 := by exact o450 h2
    simp only [x0, x1, x2, x3, x4, x5, x6, x7, x9, x10, x11, x12, x13, x14, x15, x16, x17, x18, x19, x20, x21, x22, x23, x27, x28, x29, x30, x31, x32, x33, x34, x35, x36, x37, x38, x39, x40, x41, x42, x43, x44, x49, x50, x51, x52, x53, forR_eq, forL_eq, forE_eq, idx_eq, x54, x55, x56, x57, x58, x59, x60, x61, x62, x63, x64, x65, x66, x67, x68, x69, x70, x71, x72, x73, x74, x75, x76, x77, x78, x79, x80, x81, x82, x83, x84, x85, x86, x87, x88, x89, x90, x91, x92, yz0, yz1, yz2, yz3, Option.some.injEq, exists_eq_left', exists_eq_left, exists_and_left, V.ref.injEq, V.int.injEq, V.fn.injEq, V.bool.injEq, Ob.lst.injEq, Ob.tup.injEq, decide_eq_true_eq, decide_eq_false_iff_not, Bool.not_eq_true', Bool.not_eq_false', Bool.not_true, Bool.not_false, List.length_map, yz4, yz5, yz6, yz7, yz8, yz9, yz10, yz11, true_and, and_true, reduceCtorEq, Bool.false_eq_true, Bool.true_eq_false, if_true, if_false, false_implies, true_implies, forall_const, and_self, false_and, and_false, or_false, false_or, implies_true, Nat.reduceAdd, Nat.reduceSub, ne_eq, not_true_eq_false, not_false_eq_true, Nat.zero_le, exists_eq', exists_eq, Int.toNat_natCast, AH.set_self, List.cons.injEq, f_digits_by_powers, ha', la', h1, lr, h2']
    exact ⟨fun _ => digits_plain_ok (by exact o451 hn) hw ha (by exact o423 hx.1 hx.2) hb h, fun _ => digits_plain_ok (by exact o451 hn) hw ha (by exact o423 hx.1 hx.2) hb h⟩
  | succ k ih =>
    intro n hn H a pc x Q ha hx hp hxk h
    refine call_of (by exact o452 hn) rfl rfl ?_
    have hB := hw.two
    obtain ⟨rs, h1, h2, h3, h4⟩ := hp
    have ha' : H a = some (.lst ((limbs B x).map V.int)) := ha
    have hx64 : 0 ≤ x ∧ x < 2 ^ 64 := by exact o423 hx.1 hx.2
    have la' := lim_small (show (limbs B x).length ≤ 1000 by have := len_lim hw.two hx.1 hx64.2; exact o377 this)
    have lr := lim_small (show rs.length ≤ 1000 by exact o453 h2 h3)
    have h2' : (rs.length : Int) = (k : Int) + 1 := by exact o454 h2
    have k0 : ¬ ((k : Int) + 1 = 0) := by exact o455
    simp only [x0, x1, x2, x3, x4, x5, x6, x7, x9, x10, x11, x12, x13, x14, x15, x16, x17, x18, x19, x20, x21, x22, x23, x27, x28, x29, x30, x31, x32, x33, x34, x35, x36, x37, x38, x39, x40, x41, x42, x43, x44, x49, x50, x51, x52, x53, forR_eq, forL_eq, forE_eq, idx_eq, x54, x55, x56, x57, x58, x59, x60, x61, x62, x63, x64, x65, x66, x67, x68, x69, x70, x71, x72, x73, x74, x75, x76, x77, x78, x79, x80, x81, x82, x83, x84, x85, x86, x87, x88, x89, x90, x91, x92, yz0, yz1, yz2, yz3, Option.some.injEq, exists_eq_left', exists_eq_left, exists_and_left, V.ref.injEq, V.int.injEq, V.fn.injEq, V.bool.injEq, Ob.lst.injEq, Ob.tup.injEq, decide_eq_true_eq, decide_eq_false_iff_not, Bool.not_eq_true', Bool.not_eq_false', Bool.not_true, Bool.not_false, List.length_map, yz4, yz5, yz6, yz7, yz8, yz9, yz10, yz11, true_and, and_true, reduceCtorEq, Bool.false_eq_true, Bool.true_eq_false, if_true, if_false, false_implies, true_implies, forall_const, and_self, false_and, and_false, or_false, false_or, implies_true, Nat.reduceAdd, Nat.reduceSub, ne_eq, not_true_eq_false, not_false_eq_true, Nat.zero_le, exists_eq', exists_eq, Int.toNat_natCast, AH.set_self, List.cons.injEq, f_digits_by_powers, ha', la', h1, lr, h2', k0]
    refine ⟨fun _ => digits_plain_ok (by exact o456 hn) hw ha hx64 hb h, fun hle => ?_⟩
    have hxk' : x < b ^ (2 ^ (k + 1)) := hxk.resolve_right hle
    obtain ⟨pr, hpr⟩ : ∃ pr, rs[k]? = some pr := ⟨_, List.getElem?_eq_getElem (by exact o457 h2)⟩
    refine idx_lastR h1 lr (by rw [List.getLast?_eq_getElem?, show rs.length - 1 = k by exact o458 h2]; exact hpr) ?_
    refine cut_less h1 lr (by exact o459 h2) fun pc' hpc' => ?_
    have s₁ := Sub.new (ob := .lst ((rs.take (rs.length - 1)).map V.ref)) hpc'
    have hpl : PL B b (H.set pc' (.lst ((rs.take (rs.length - 1)).map V.ref))) pc' k := ⟨rs.take (rs.length - 1), AH.set_self, by rw [List.length_take]; exact o460 h2, by exact o461 h3, fun i r e => by
      rw [List.getElem?_take] at e
      split at e
      · exact ⟨s₁.il (h4 i r e).1, (h4 i r e).2⟩
      · cases e⟩
    have hpw := s₁.il (h4 k pr hpr).1
    have hbig := (h4 k pr hpr).2
    have ha₁ := s₁.il ha
    have hpc1 : (H.set pc' (.lst ((rs.take (rs.length - 1)).map V.ref))) pc = some (.lst (rs.map V.ref)) := s₁ _ _ h1
    generalize H.set pc' (.lst ((rs.take (rs.length - 1)).map V.ref)) = H₁ at *
    have z0 : (0 : Int) ≤ (k : Int) + 1 - 1 := by exact o462
    have z1 : (k : Int) + 1 - 1 ≤ 1000 := by exact o463 h3
    have z2 : ((k : Int) + 1 - 1).toNat = k := by exact o464
    simp only [x0, x1, x2, x3, x4, x5, x6, x7, x9, x10, x11, x12, x13, x14, x15, x16, x17, x18, x19, x20, x21, x22, x23, x27, x28, x29, x30, x31, x32, x33, x34, x35, x36, x37, x38, x39, x40, x41, x42, x43, x44, x49, x50, x51, x52, x53, forR_eq, forL_eq, forE_eq, idx_eq, x54, x55, x56, x57, x58, x59, x60, x61, x62, x63, x64, x65, x66, x67, x68, x69, x70, x71, x72, x73, x74, x75, x76, x77, x78, x79, x80, x81, x82, x83, x84, x85, x86, x87, x88, x89, x90, x91, x92, yz0, yz1, yz2, yz3, Option.some.injEq, exists_eq_left', exists_eq_left, exists_and_left, V.ref.injEq, V.int.injEq, V.fn.injEq, V.bool.injEq, Ob.lst.injEq, Ob.tup.injEq, decide_eq_true_eq, decide_eq_false_iff_not, Bool.not_eq_true', Bool.not_eq_false', Bool.not_true, Bool.not_false, List.length_map, yz4, yz5, yz6, yz7, yz8, yz9, yz10, yz11, true_and, and_true, reduceCtorEq, Bool.false_eq_true, Bool.true_eq_false, if_true, if_false, false_implies, true_implies, forall_const, and_self, false_and, and_false, or_false, false_or, implies_true, Nat.reduceAdd, Nat.reduceSub, ne_eq, not_true_eq_false, not_false_eq_true, Nat.zero_le, exists_eq', exists_eq, Int.toNat_natCast, AH.set_self, List.cons.injEq, hpc1, lr, h2', z0, z1, z2, one64, Int.one_mul]
    have hP : (0 : Int) < b ^ (2 ^ k) := Int.pow_pos (by exact o74 hb.1)
    have hPP : b ^ (2 ^ (k + 1)) = b ^ (2 ^ k) * b ^ (2 ^ k) := by rw [Nat.pow_succ, Int.pow_mul, Int.pow_succ, Int.pow_succ]; simp
    refine compare_ok (by exact o465 hn) hw ha₁ hpw hx64 (by exact o428 hbig hP) ?_
    try simp only [x0, x1, x2, x3, x4, x5, x6, x7, x9, x10, x11, x12, x13, x14, x15, x16, x17, x18, x19, x20, x21, x22, x23, x27, x28, x29, x30, x31, x32, x33, x34, x35, x36, x37, x38, x39, x40, x41, x42, x43, x44, x49, x50, x51, x52, x53, forR_eq, forL_eq, forE_eq, idx_eq, x54, x55, x56, x57, x58, x59, x60, x61, x62, x63, x64, x65, x66, x67, x68, x69, x70, x71, x72, x73, x74, x75, x76, x77, x78, x79, x80, x81, x82, x83, x84, x85, x86, x87, x88, x89, x90, x91, x92, yz0, yz1, yz2, yz3, Option.some.injEq, exists_eq_left', exists_eq_left, exists_and_left, V.ref.injEq, V.int.injEq, V.fn.injEq, V.bool.injEq, Ob.lst.injEq, Ob.tup.injEq, decide_eq_true_eq, decide_eq_false_iff_not, Bool.not_eq_true', Bool.not_eq_false', Bool.not_true, Bool.not_false, List.length_map, yz4, yz5, yz6, yz7, yz8, yz9, yz10, yz11, true_and, and_true, reduceCtorEq, Bool.false_eq_true, Bool.true_eq_false, if_true, if_false, false_implies, true_implies, forall_const, and_self, false_and, and_false, or_false, false_or, implies_true, Nat.reduceAdd, Nat.reduceSub, ne_eq, not_true_eq_false, not_false_eq_true, Nat.zero_le, exists_eq', exists_eq, Int.toNat_natCast, AH.set_self, List.cons.injEq]
    refine ⟨fun hc => ?_, fun hc => ?_⟩
    · have hlt : x < b ^ (2 ^ k) := by unfold cmpVal at hc; split at hc; · assumption
                                       · split at hc <;> (first | exact o380 hc | exact o381 hc)
      exact ih (n - 1) (by exact o466 hn) ha₁ hx hpl (.inl hlt) fun c H' hc s hf => h c H' (s₁.none hc) (s₁.trans s) hf
    · have hge : b ^ (2 ^ k) ≤ x := by unfold cmpVal at hc; split at hc; · simp at hc
                                       · exact o268 (by assumption)
      have hm : 2 ^ k < 32 := by
        rcases Nat.lt_or_ge (2 ^ k) 32 with z | z
        · exact z
        · have h5 := pow_mono hb.1 (2 ^ k)
          have h6 := pow_le (B := 2) (by decide) z
          exact o467 hx.2 hge h5 h6
      have hq0 : 1 ≤ x / b ^ (2 ^ k) := Int.le_ediv_of_mul_le hP (by exact o468 hge)
      have hq1 : x / b ^ (2 ^ k) < b ^ (2 ^ k) := Int.ediv_lt_of_lt_mul hP (by exact o469 hxk' hPP)
      have hq2 : x / b ^ (2 ^ k) ≤ x := Int.ediv_le_self _ hx.1
      have hr := emod_lim hP x
      have hsplit := limbs_split hb.1 (m := 2 ^ k) hr (hi := x / b ^ (2 ^ k)) (by exact o146 hq0)
      rw [Int.emod_add_mul_ediv] at hsplit
      have hll := limbs_len hb.1 (2 ^ k) _ hr.1 hr.2
      have hlh := len_lim hb.1 (x := x / b ^ (2 ^ k)) (by exact o470 hq0) (by exact o471 hx.2 hq2)
      refine divrem_school_ok (by exact o472 hn) hw ha₁ hpw hx64 ⟨hP, hbig⟩ fun c c₁ c₂ H₂ hc hc₁ hc₂ s₂ ht hqq hrr => ?_
      simp only [x0, x1, x2, x3, x4, x5, x6, x7, x9, x10, x11, x12, x13, x14, x15, x16, x17, x18, x19, x20, x21, x22, x23, x27, x28, x29, x30, x31, x32, x33, x34, x35, x36, x37, x38, x39, x40, x41, x42, x43, x44, x49, x50, x51, x52, x53, forR_eq, forL_eq, forE_eq, idx_eq, x54, x55, x56, x57, x58, x59, x60, x61, x62, x63, x64, x65, x66, x67, x68, x69, x70, x71, x72, x73, x74, x75, x76, x77, x78, x79, x80, x81, x82, x83, x84, x85, x86, x87, x88, x89, x90, x91, x92, yz0, yz1, yz2, yz3, Option.some.injEq, exists_eq_left', exists_eq_left, exists_and_left, V.ref.injEq, V.int.injEq, V.fn.injEq, V.bool.injEq, Ob.lst.injEq, Ob.tup.injEq, decide_eq_true_eq, decide_eq_false_iff_not, Bool.not_eq_true', Bool.not_eq_false', Bool.not_true, Bool.not_false, List.length_map, yz4, yz5, yz6, yz7, yz8, yz9, yz10, yz11, true_and, and_true, reduceCtorEq, Bool.false_eq_true, Bool.true_eq_false, if_true, if_false, false_implies, true_implies, forall_const, and_self, false_and, and_false, or_false, false_or, implies_true, Nat.reduceAdd, Nat.reduceSub, ne_eq, not_true_eq_false, not_false_eq_true, Nat.zero_le, exists_eq', exists_eq, Int.toNat_natCast, AH.set_self, List.cons.injEq, ht]
      have hpl₂ := hpl.sub s₂
      refine ih (n - 1) (by exact o466 hn) hqq ⟨by exact o470 hq0, by exact o473 hx.2 hq2⟩ hpl₂ (.inl hq1) fun c₃ H₃ hc₃ s₃ hf₃ => ?_
      try simp only [x0, x1, x2, x3, x4, x5, x6, x7, x9, x10, x11, x12, x13, x14, x15, x16, x17, x18, x19, x20, x21, x22, x23, x27, x28, x29, x30, x31, x32, x33, x34, x35, x36, x37, x38, x39, x40, x41, x42, x43, x44, x49, x50, x51, x52, x53, forR_eq, forL_eq, forE_eq, idx_eq, x54, x55, x56, x57, x58, x59, x60, x61, x62, x63, x64, x65, x66, x67, x68, x69, x70, x71, x72, x73, x74, x75, x76, x77, x78, x79, x80, x81, x82, x83, x84, x85, x86, x87, x88, x89, x90, x91, x92, yz0, yz1, yz2, yz3, Option.some.injEq, exists_eq_left', exists_eq_left, exists_and_left, V.ref.injEq, V.int.injEq, V.fn.injEq, V.bool.injEq, Ob.lst.injEq, Ob.tup.injEq, decide_eq_true_eq, decide_eq_false_iff_not, Bool.not_eq_true', Bool.not_eq_false', Bool.not_true, Bool.not_false, List.length_map, yz4, yz5, yz6, yz7, yz8, yz9, yz10, yz11, true_and, and_true, reduceCtorEq, Bool.false_eq_true, Bool.true_eq_false, if_true, if_false, false_implies, true_implies, forall_const, and_self, false_and, and_false, or_false, false_or, implies_true, Nat.reduceAdd, Nat.reduceSub, ne_eq, not_true_eq_false, not_false_eq_true, Nat.zero_le, exists_eq', exists_eq, Int.toNat_natCast, AH.set_self, List.cons.injEq]
      refine ih (n - 1) (by exact o466 hn) (s₃.il hrr) ⟨hr.1, by exact o474 hx.2 hge hr.2⟩ (hpl₂.sub s₃) (.inl hr.2) fun c₄ H₄ hc₄ s₄ hf₄ => ?_
      have hcast : ((2 : Int) ^ k) = ((2 ^ k : Nat) : Int) := by push_cast; rfl
      rw [hcast]
      refine with_noughts_ok (by exact o465 hn) hf₄ (by rw [List.length_reverse]; exact o475 hm hll) (by exact o476 hm) fun c₅ H₅ hc₅ s₅ hf₅ => ?_
      have hf₃' := (s₄.trans s₅).il hf₃
      have l5 : (limbs b (x / b ^ 2 ^ k)).reverse.length + (List.replicate (2 ^ k - (limbs b (x % b ^ 2 ^ k)).reverse.length) 0 ++ (limbs b (x % b ^ 2 ^ k)).reverse).length ≤ lim := lim_small (by simp; exact o477 hm hll hlh)
      have g₃ : H₅ c₃ = some (.lst ((limbs b (x / b ^ 2 ^ k)).reverse.map V.int)) := hf₃'
      have g₅ : H₅ c₅ = some (.lst ((List.replicate (2 ^ k - (limbs b (x % b ^ 2 ^ k)).reverse.length) 0 ++ (limbs b (x % b ^ 2 ^ k)).reverse).map V.int)) := hf₅
      refine ⟨rfl, _, _, g₃, g₅, by simpa using l5, fun c₆ hc₆ => ?_⟩
      have S := (((s₁.trans s₂).trans s₃).trans s₄).trans s₅
      refine h c₆ _ (S.none hc₆) (S.set (S.none hc₆)) ?_
      unfold IL
      rw [AH.set_self, hsplit]
      simp
theorem to_digits_ok {n w : Nat} (hn : 100 ≤ n) (hw : WOk w B) {H : AH} {a : Nat} {x b least : Int} {Q : PQ} (ha : IL H a (limbs B x)) (hx : 0 ≤ x ∧ x < 2 ^ 32) (hb : 2 ≤ b ∧ b < 2 ^ 20) (h : Ret H (limbs b x).reverse Q) :
    callS theDefs n 16 [.ref a, .int b, .int w, .int least, .fn 27, .fn 21] H Q := by
  refine call_of (by exact o478 hn) rfl rfl ?_
  have ha' : H a = some (.lst ((limbs B x).map V.int)) := ha
  have la' := lim_small (show (limbs B x).length ≤ 1000 by have := len_lim hw.two hx.1 (by exact o448 hx.2 : x < 2 ^ 64); exact o377 this)
  simp only [x0, x1, x2, x3, x4, x5, x6, x7, x9, x10, x11, x12, x13, x14, x15, x16, x17, x18, x19, x20, x21, x22, x23, x27, x28, x29, x30, x31, x32, x33, x34, x35, x36, x37, x38, x39, x40, x41, x42, x43, x44, x49, x50, x51, x52, x53, forR_eq, forL_eq, forE_eq, idx_eq, x54, x55, x56, x57, x58, x59, x60, x61, x62, x63, x64, x65, x66, x67, x68, x69, x70, x71, x72, x73, x74, x75, x76, x77, x78, x79, x80, x81, x82, x83, x84, x85, x86, x87, x88, x89, x90, x91, x92, yz0, yz1, yz2, yz3, Option.some.injEq, exists_eq_left', exists_eq_left, exists_and_left, V.ref.injEq, V.int.injEq, V.fn.injEq, V.bool.injEq, Ob.lst.injEq, Ob.tup.injEq, decide_eq_true_eq, decide_eq_false_iff_not, Bool.not_eq_true', Bool.not_eq_false', Bool.not_true, Bool.not_false, List.length_map, yz4, yz5, yz6, yz7, yz8, yz9, yz10, yz11, true_and, and_true, reduceCtorEq, Bool.false_eq_true, Bool.true_eq_false, if_true, if_false, false_implies, true_implies, forall_const, and_self, false_and, and_false, or_false, false_or, implies_true, Nat.reduceAdd, Nat.reduceSub, ne_eq, not_true_eq_false, not_false_eq_true, Nat.zero_le, exists_eq', exists_eq, Int.toNat_natCast, AH.set_self, List.cons.injEq, f_to_digits]
  refine check_base_ok (by exact o479 hn) hb.1 ?_
  simp only [x0, x1, x2, x3, x4, x5, x6, x7, x9, x10, x11, x12, x13, x14, x15, x16, x17, x18, x19, x20, x21, x22, x23, x27, x28, x29, x30, x31, x32, x33, x34, x35, x36, x37, x38, x39, x40, x41, x42, x43, x44, x49, x50, x51, x52, x53, forR_eq, forL_eq, forE_eq, idx_eq, x54, x55, x56, x57, x58, x59, x60, x61, x62, x63, x64, x65, x66, x67, x68, x69, x70, x71, x72, x73, x74, x75, x76, x77, x78, x79, x80, x81, x82, x83, x84, x85, x86, x87, x88, x89, x90, x91, x92, yz0, yz1, yz2, yz3, Option.some.injEq, exists_eq_left', exists_eq_left, exists_and_left, V.ref.injEq, V.int.injEq, V.fn.injEq, V.bool.injEq, Ob.lst.injEq, Ob.tup.injEq, decide_eq_true_eq, decide_eq_false_iff_not, Bool.not_eq_true', Bool.not_eq_false', Bool.not_true, Bool.not_false, List.length_map, yz4, yz5, yz6, yz7, yz8, yz9, yz10, yz11, true_and, and_true, reduceCtorEq, Bool.false_eq_true, Bool.true_eq_false, if_true, if_false, false_implies, true_implies, forall_const, and_self, false_and, and_false, or_false, false_or, implies_true, Nat.reduceAdd, Nat.reduceSub, ne_eq, not_true_eq_false, not_false_eq_true, Nat.zero_le, exists_eq', exists_eq, Int.toNat_natCast, AH.set_self, List.cons.injEq, ha', la']
  refine ⟨fun h0 => ?_, fun h0 => ?_⟩
  · refine base_powers_ok (by exact o480 hn) hw ha hx hb fun c k H₁ hc s₁ hp hk => ?_
    try simp only [x0, x1, x2, x3, x4, x5, x6, x7, x9, x10, x11, x12, x13, x14, x15, x16, x17, x18, x19, x20, x21, x22, x23, x27, x28, x29, x30, x31, x32, x33, x34, x35, x36, x37, x38, x39, x40, x41, x42, x43, x44, x49, x50, x51, x52, x53, forR_eq, forL_eq, forE_eq, idx_eq, x54, x55, x56, x57, x58, x59, x60, x61, x62, x63, x64, x65, x66, x67, x68, x69, x70, x71, x72, x73, x74, x75, x76, x77, x78, x79, x80, x81, x82, x83, x84, x85, x86, x87, x88, x89, x90, x91, x92, yz0, yz1, yz2, yz3, Option.some.injEq, exists_eq_left', exists_eq_left, exists_and_left, V.ref.injEq, V.int.injEq, V.fn.injEq, V.bool.injEq, Ob.lst.injEq, Ob.tup.injEq, decide_eq_true_eq, decide_eq_false_iff_not, Bool.not_eq_true', Bool.not_eq_false', Bool.not_true, Bool.not_false, List.length_map, yz4, yz5, yz6, yz7, yz8, yz9, yz10, yz11, true_and, and_true, reduceCtorEq, Bool.false_eq_true, Bool.true_eq_false, if_true, if_false, false_implies, true_implies, forall_const, and_self, false_and, and_false, or_false, false_or, implies_true, Nat.reduceAdd, Nat.reduceSub, ne_eq, not_true_eq_false, not_false_eq_true, Nat.zero_le, exists_eq', exists_eq, Int.toNat_natCast, AH.set_self, List.cons.injEq]
    have hk64 : k ≤ 64 := by obtain ⟨_, _, _, q, _⟩ := hp; exact q
    exact digits_by_powers_ok hw hb k (n - 1) (by exact o481 hn hk64) (s₁.il ha) hx hp (.inl hk) fun c' H' hc' s hf => h c' H' (s₁.none hc') (s₁.trans s) hf
  · intro c hc
    have s₁ := Sub.new (ob := .lst []) hc
    have hp : PL B b (H.set c (.lst [])) c 0 := ⟨[], AH.set_self, rfl, by exact o482, fun i r e => by simp at e⟩
    try simp only [x0, x1, x2, x3, x4, x5, x6, x7, x9, x10, x11, x12, x13, x14, x15, x16, x17, x18, x19, x20, x21, x22, x23, x27, x28, x29, x30, x31, x32, x33, x34, x35, x36, x37, x38, x39, x40, x41, x42, x43, x44, x49, x50, x51, x52, x53, forR_eq, forL_eq, forE_eq, idx_eq, x54, x55, x56, x57, x58, x59, x60, x61, x62, x63, x64, x65, x66, x67, x68, x69, x70, x71, x72, x73, x74, x75, x76, x77, x78, x79, x80, x81, x82, x83, x84, x85, x86, x87, x88, x89, x90, x91, x92, yz0, yz1, yz2, yz3, Option.some.injEq, exists_eq_left', exists_eq_left, exists_and_left, V.ref.injEq, V.int.injEq, V.fn.injEq, V.bool.injEq, Ob.lst.injEq, Ob.tup.injEq, decide_eq_true_eq, decide_eq_false_iff_not, Bool.not_eq_true', Bool.not_eq_false', Bool.not_true, Bool.not_false, List.length_map, yz4, yz5, yz6, yz7, yz8, yz9, yz10, yz11, true_and, and_true, reduceCtorEq, Bool.false_eq_true, Bool.true_eq_false, if_true, if_false, false_implies, true_implies, forall_const, and_self, false_and, and_false, or_false, false_or, implies_true, Nat.reduceAdd, Nat.reduceSub, ne_eq, not_true_eq_false, not_false_eq_true, Nat.zero_le, exists_eq', exists_eq, Int.toNat_natCast, AH.set_self, List.cons.injEq]
    exact digits_by_powers_ok hw hb 0 (n - 1) (by exact o483 hn) (s₁.il ha) hx hp (.inr (by exact o484 h0)) fun c' H' hc' s hf => h c' H' (s₁.none hc') (s₁.trans s) hf
end Mine
end
section
open PySem PySem.Calls PySem.W PyProof.Rows
set_option maxRecDepth 100000
namespace Mine
variable {B : Int} {Φ : Phi}
theorem times_base_ok {n w : Nat} (hn : 3 ≤ n) (hw : WOk w B) {H : AH} {a : Nat} {x b : Int} {Q : PQ} (ha : IL H a (limbs B x)) (hx : 0 ≤ x ∧ x < 2 ^ 64) (hb : 2 ≤ b ∧ b < 2 ^ 20) (h : Ret H (limbs B (x * b)) Q) :
    callS theDefs n 17 [.ref a, .int b, .int w, .fn 21] H Q := by
  refine call_of (by exact o252 hn) rfl rfl ?_
  simp only [x0, x1, x2, x3, x4, x5, x6, x7, x9, x10, x11, x12, x13, x14, x15, x16, x17, x18, x19, x20, x21, x22, x23, x27, x28, x29, x30, x31, x32, x33, x34, x35, x36, x37, x38, x39, x40, x41, x42, x43, x44, x49, x50, x51, x52, x53, forR_eq, forL_eq, forE_eq, idx_eq, x54, x55, x56, x57, x58, x59, x60, x61, x62, x63, x64, x65, x66, x67, x68, x69, x70, x71, x72, x73, x74, x75, x76, x77, x78, x79, x80, x81, x82, x83, x84, x85, x86, x87, x88, x89, x90, x91, x92, yz0, yz1, yz2, yz3, Option.some.injEq, exists_eq_left', exists_eq_left, exists_and_left, V.ref.injEq, V.int.injEq, V.fn.injEq, V.bool.injEq, Ob.lst.injEq, Ob.tup.injEq, decide_eq_true_eq, decide_eq_false_iff_not, Bool.not_eq_true', Bool.not_eq_false', Bool.not_true, Bool.not_false, List.length_map, yz4, yz5, yz6, yz7, yz8, yz9, yz10, yz11, true_and, and_true, reduceCtorEq, Bool.false_eq_true, Bool.true_eq_false, if_true, if_false, false_implies, true_implies, forall_const, and_self, false_and, and_false, or_false, false_or, implies_true, Nat.reduceAdd, Nat.reduceSub, ne_eq, not_true_eq_false, not_false_eq_true, Nat.zero_le, exists_eq', exists_eq, Int.toNat_natCast, AH.set_self, List.cons.injEq, f_times_base, hw.pow, hw.nn, hw.k, one64, Int.one_mul]
  refine ⟨fun hlt => mul_limb_ok (by exact o424 hn) hw ha hx (by exact o485 hb.1 hlt) h, fun hge => ?_⟩
  refine nat_of_ok (by exact o424 hn) hw (show 0 ≤ b by exact o76 hb.1) (by exact o413 hb.2) fun c₁ H₁ hc₁ s₁ h₁ => ?_
  exact mul_school_ok (by exact o253 hn) hw (s₁.il ha) h₁ hx (by exact o486 hb.1 hb.2) fun c H' hc s hf => h c H' (s₁.none hc) (s₁.trans s) hf
noncomputable def hor (b : Int) (ds : List Int) : Int := val b ds.reverse
theorem hor_snoc {b : Int} {ds : List Int} {d : Int} : hor b (ds ++ [d]) = hor b ds * b + d := by
  unfold hor
  rw [List.reverse_append]
  show d + b * val b ds.reverse = _
  rw [Int.mul_comm b]; exact o487
theorem hor_append {b : Int} {ds es : List Int} : hor b (ds ++ es) = hor b ds * b ^ es.length + hor b es := by
  unfold hor
  rw [List.reverse_append, val_append, List.length_reverse, Int.mul_comm]; exact o487
theorem Lim.rev {b : Int} {ds : List Int} (h : Lim b ds) : Lim b ds.reverse := fun x hx => h x (List.mem_reverse.mp hx)
theorem hor_lt {b : Int} (hb : 0 < b) {ds : List Int} (h : Lim b ds) : 0 ≤ hor b ds ∧ hor b ds < b ^ ds.length := by
  have h1 := val_lt hb h.rev
  have h2 := val_nonneg (Int.le_of_lt hb) h.rev
  rw [List.length_reverse] at h1
  exact ⟨h2, h1⟩
theorem pow_small {b : Int} (hb : 2 ≤ b) {i k : Nat} (h : i ≤ k) (hk : b ^ k < 2 ^ 60) : b ^ i < 2 ^ 60 := Int.lt_of_le_of_lt (pow_le (by exact o152 hb) h) hk
theorem number_plain_ok {n w : Nat} (hn : 4 ≤ n) (hw : WOk w B) {H : AH} {a : Nat} {b : Int} {ds : List Int} {Q : PQ} (ha : IL H a ds) (hd : Lim b ds) (hb : 2 ≤ b ∧ b < 2 ^ 20) (hl : b ^ ds.length < 2 ^ 60) (hll : ds.length ≤ 1000) (h : Ret H (limbs B (hor b ds)) Q) :
    callS theDefs n 18 [.ref a, .int b, .int w, .fn 21] H Q := by
  refine call_of (by exact o488 hn) rfl rfl ?_
  have l0 : 0 ≤ lim := by exact o180
  have ldl := lim_small hll
  simp only [x0, x1, x2, x3, x4, x5, x6, x7, x9, x10, x11, x12, x13, x14, x15, x16, x17, x18, x19, x20, x21, x22, x23, x27, x28, x29, x30, x31, x32, x33, x34, x35, x36, x37, x38, x39, x40, x41, x42, x43, x44, x49, x50, x51, x52, x53, forR_eq, forL_eq, forE_eq, idx_eq, x54, x55, x56, x57, x58, x59, x60, x61, x62, x63, x64, x65, x66, x67, x68, x69, x70, x71, x72, x73, x74, x75, x76, x77, x78, x79, x80, x81, x82, x83, x84, x85, x86, x87, x88, x89, x90, x91, x92, yz0, yz1, yz2, yz3, Option.some.injEq, exists_eq_left', exists_eq_left, exists_and_left, V.ref.injEq, V.int.injEq, V.fn.injEq, V.bool.injEq, Ob.lst.injEq, Ob.tup.injEq, decide_eq_true_eq, decide_eq_false_iff_not, Bool.not_eq_true', Bool.not_eq_false', Bool.not_true, Bool.not_false, List.length_map, yz4, yz5, yz6, yz7, yz8, yz9, yz10, yz11, true_and, and_true, reduceCtorEq, Bool.false_eq_true, Bool.true_eq_false, if_true, if_false, false_implies, true_implies, forall_const, and_self, false_and, and_false, or_false, false_or, implies_true, Nat.reduceAdd, Nat.reduceSub, ne_eq, not_true_eq_false, not_false_eq_true, Nat.zero_le, exists_eq', exists_eq, Int.toNat_natCast, AH.set_self, List.cons.injEq, f_number_plain]
  intro c hc
  have hac : (H.set c (.lst [])) a = some (.lst (ds.map V.int)) := (Sub.new hc).il ha
  refine ⟨ds.map V.int, by simpa using ldl, ?_⟩
  obtain ⟨I, hI⟩ : ∃ I : Nat → Loc → AH → Prop, I = fun m l H' => ∃ r z, l = [some (.ref a), some (.int b), some (.int w), some (.fn 21), some (.ref r), z] ∧ Sub H H' ∧ H r = none ∧ IL H' r (limbs B (hor b (ds.take m))) ∧ m ≤ ds.length := ⟨_, rfl⟩
  refine forL_in I (by rw [hI]; exact ⟨c, _, rfl, .new hc, hc, by rw [show hor b (ds.take 0) = 0 by simp [hor, val], limbs_zero]; exact il_set (xs := []), by exact o180⟩) (fun m l H' hj => ?_) (fun m l H' d he hj => ?_) fun l H' hj => ?_
  · rw [hI] at hj
    obtain ⟨r, z, rfl, hs, hr, hf, hm⟩ := hj
    exact hs.il ha
  · rw [hI] at hj
    obtain ⟨r, z, rfl, hs, hr, hf, hm⟩ := hj
    have hm' := (List.getElem?_eq_some_iff.mp he).1
    have bd := hd.at he
    have e1 : ds.take (m + 1) = ds.take m ++ [d] := by
      obtain ⟨p, q⟩ := List.getElem?_eq_some_iff.mp he
      rw [List.take_succ_eq_append_getElem p, q]
    have h1 := hor_lt (by exact o74 hb.1) (hd.take m)
    have h2 := hor_lt (by exact o74 hb.1) (hd.take (m + 1))
    rw [List.length_take, Nat.min_eq_left (by (first | exact o186 hm | exact o198 hm'))] at h1 h2
    have p1 := pow_small hb.1 (show m ≤ ds.length by exact o186 hm) hl
    have p2 := pow_small hb.1 (show m + 1 ≤ ds.length by exact o198 hm') hl
    rw [e1, hor_snoc] at h2
    have hm0 : 0 ≤ hor b (ds.take m) * b := Int.mul_nonneg h1.1 (by exact o76 hb.1)
    try simp only [x0, x1, x2, x3, x4, x5, x6, x7, x9, x10, x11, x12, x13, x14, x15, x16, x17, x18, x19, x20, x21, x22, x23, x27, x28, x29, x30, x31, x32, x33, x34, x35, x36, x37, x38, x39, x40, x41, x42, x43, x44, x49, x50, x51, x52, x53, forR_eq, forL_eq, forE_eq, idx_eq, x54, x55, x56, x57, x58, x59, x60, x61, x62, x63, x64, x65, x66, x67, x68, x69, x70, x71, x72, x73, x74, x75, x76, x77, x78, x79, x80, x81, x82, x83, x84, x85, x86, x87, x88, x89, x90, x91, x92, yz0, yz1, yz2, yz3, Option.some.injEq, exists_eq_left', exists_eq_left, exists_and_left, V.ref.injEq, V.int.injEq, V.fn.injEq, V.bool.injEq, Ob.lst.injEq, Ob.tup.injEq, decide_eq_true_eq, decide_eq_false_iff_not, Bool.not_eq_true', Bool.not_eq_false', Bool.not_true, Bool.not_false, List.length_map, yz4, yz5, yz6, yz7, yz8, yz9, yz10, yz11, true_and, and_true, reduceCtorEq, Bool.false_eq_true, Bool.true_eq_false, if_true, if_false, false_implies, true_implies, forall_const, and_self, false_and, and_false, or_false, false_or, implies_true, Nat.reduceAdd, Nat.reduceSub, ne_eq, not_true_eq_false, not_false_eq_true, Nat.zero_le, exists_eq', exists_eq, Int.toNat_natCast, AH.set_self, List.cons.injEq]
    refine times_base_ok (by exact o489 hn) hw hf (by exact o490 h1.1 h1.2 p1) hb fun c₁ H₁ hc₁ s₁ hf₁ => ?_
    refine nat_of_ok (by exact o491 hn) hw bd.1 (by exact o492 hb.2 bd.2) fun c₂ H₂ hc₂ s₂ hf₂ => ?_
    refine add_ok (by exact o491 hn) hw (s₂.il hf₁) hf₂ (by exact o493 bd.1 h2.2 p2 hm0) (by exact o416 hb.2 bd.1 bd.2) fun c₃ H₃ hc₃ s₃ hf₃ => ?_
    try simp only [x0, x1, x2, x3, x4, x5, x6, x7, x9, x10, x11, x12, x13, x14, x15, x16, x17, x18, x19, x20, x21, x22, x23, x27, x28, x29, x30, x31, x32, x33, x34, x35, x36, x37, x38, x39, x40, x41, x42, x43, x44, x49, x50, x51, x52, x53, forR_eq, forL_eq, forE_eq, idx_eq, x54, x55, x56, x57, x58, x59, x60, x61, x62, x63, x64, x65, x66, x67, x68, x69, x70, x71, x72, x73, x74, x75, x76, x77, x78, x79, x80, x81, x82, x83, x84, x85, x86, x87, x88, x89, x90, x91, x92, yz0, yz1, yz2, yz3, Option.some.injEq, exists_eq_left', exists_eq_left, exists_and_left, V.ref.injEq, V.int.injEq, V.fn.injEq, V.bool.injEq, Ob.lst.injEq, Ob.tup.injEq, decide_eq_true_eq, decide_eq_false_iff_not, Bool.not_eq_true', Bool.not_eq_false', Bool.not_true, Bool.not_false, List.length_map, yz4, yz5, yz6, yz7, yz8, yz9, yz10, yz11, true_and, and_true, reduceCtorEq, Bool.false_eq_true, Bool.true_eq_false, if_true, if_false, false_implies, true_implies, forall_const, and_self, false_and, and_false, or_false, false_or, implies_true, Nat.reduceAdd, Nat.reduceSub, ne_eq, not_true_eq_false, not_false_eq_true, Nat.zero_le, exists_eq', exists_eq, Int.toNat_natCast, AH.set_self, List.cons.injEq]
    rw [hI]
    have S := ((hs.trans s₁).trans s₂)
    refine ⟨c₃, _, rfl, S.trans s₃, S.none hc₃, by rw [e1, hor_snoc]; exact hf₃, by exact o198 hm'⟩
  · rw [hI] at hj
    obtain ⟨r, z, rfl, hs, hr, hf, hm⟩ := hj
    rw [List.take_of_length_le (Nat.le_refl _)] at hf
    try simp only [x0, x1, x2, x3, x4, x5, x6, x7, x9, x10, x11, x12, x13, x14, x15, x16, x17, x18, x19, x20, x21, x22, x23, x27, x28, x29, x30, x31, x32, x33, x34, x35, x36, x37, x38, x39, x40, x41, x42, x43, x44, x49, x50, x51, x52, x53, forR_eq, forL_eq, forE_eq, idx_eq, x54, x55, x56, x57, x58, x59, x60, x61, x62, x63, x64, x65, x66, x67, x68, x69, x70, x71, x72, x73, x74, x75, x76, x77, x78, x79, x80, x81, x82, x83, x84, x85, x86, x87, x88, x89, x90, x91, x92, yz0, yz1, yz2, yz3, Option.some.injEq, exists_eq_left', exists_eq_left, exists_and_left, V.ref.injEq, V.int.injEq, V.fn.injEq, V.bool.injEq, Ob.lst.injEq, Ob.tup.injEq, decide_eq_true_eq, decide_eq_false_iff_not, Bool.not_eq_true', Bool.not_eq_false', Bool.not_true, Bool.not_false, List.length_map, yz4, yz5, yz6, yz7, yz8, yz9, yz10, yz11, true_and, and_true, reduceCtorEq, Bool.false_eq_true, Bool.true_eq_false, if_true, if_false, false_implies, true_implies, forall_const, and_self, false_and, and_false, or_false, false_or, implies_true, Nat.reduceAdd, Nat.reduceSub, ne_eq, not_true_eq_false, not_false_eq_true, Nat.zero_le, exists_eq', exists_eq, Int.toNat_natCast, AH.set_self, List.cons.injEq]
    exact h r H' hr hs hf
theorem cut_topn {H : AH} {a : Nat} {xs : List Int} {k : Int} {i : Nat} {Q : PQ} (h : IL H a xs) (hl : xs.length ≤ lim) (hk : k = (i : Int)) (hi : i ≤ xs.length)
    (q : ∀ c, H c = none → Q (.ref c) (H.set c (.lst ((xs.take i).map V.int)))) : cutS (.ref a) none (some k) H Q := by
  subst hk
  exact cut_top h hl (by exact o135 hi) fun c hc => by rw [Int.toNat_natCast]; exact q c hc
theorem cut_from {H : AH} {a : Nat} {xs : List Int} {k : Int} {i : Nat} {Q : PQ} (h : IL H a xs) (hl : xs.length ≤ lim) (hk : k = (i : Int)) (hi : i ≤ xs.length)
    (q : ∀ c, H c = none → Q (.ref c) (H.set c (.lst ((xs.drop i).map V.int)))) : cutS (.ref a) (some k) none H Q := by
  subst hk
  refine cut_il h hl fun c hc => ?_
  have e : clipAt xs.length (i : Int) = i := by rw [clip_nat (by exact o143) (by exact o207 hi)]; simp
  have := q c hc
  simpa [e, List.take_of_length_le] using this
theorem number_by_powers_ok {w : Nat} (hw : WOk w B) {b : Int} (hb : 2 ≤ b ∧ b < 2 ^ 20) {least : Int} : ∀ (m n : Nat), 6 + m ≤ n → ∀ {H : AH} {a pc k : Nat} {ds : List Int} {Q : PQ}, ds.length = m → IL H a ds → Lim b ds → b ^ ds.length < 2 ^ 60 → ds.length ≤ 1000 → PL B b H pc k →
    Ret H (limbs B (hor b ds)) Q → callS theDefs n 19 [.ref a, .ref pc, .int b, .int w, .int least, .fn 21] H Q := by
  intro m
  induction m using Nat.strongRecOn with
  | ind m ih =>
    intro n hn H a pc k ds Q hm ha hd hl hll hp h
    have hp' := hp
    obtain ⟨rs, h1, h2, h3, h4⟩ := hp'
    refine call_of (by exact o494 hn) rfl rfl ?_
    have hB := hw.two
    have ha' : H a = some (.lst (ds.map V.int)) := ha
    have la' := lim_small hll
    have lr := lim_small (show rs.length ≤ 1000 by exact o495 h2 h3)
    have h2' : (rs.length : Int) = (k : Int) := by exact o496 h2
    have fin : ∀ t : Nat, t ≤ k → (1 ≤ t → 2 ^ (t - 1) < ds.length) → execsS (callS theDefs (n - 1)) (tl (tl f_number_by_powers.body)) [some (.ref a), some (.ref pc), some (.int b), some (.int w), some (.int least), some (.fn 21), some (.int ((t : Int) - 1)), none, none, none] H fun f _ H' => match f with | .next => Q .none H' | .ret v => Q v H' := fun t htk ht => by
      simp only [x0, x1, x2, x3, x4, x5, x6, x7, x9, x10, x11, x12, x13, x14, x15, x16, x17, x18, x19, x20, x21, x22, x23, x27, x28, x29, x30, x31, x32, x33, x34, x35, x36, x37, x38, x39, x40, x41, x42, x43, x44, x49, x50, x51, x52, x53, forR_eq, forL_eq, forE_eq, idx_eq, x54, x55, x56, x57, x58, x59, x60, x61, x62, x63, x64, x65, x66, x67, x68, x69, x70, x71, x72, x73, x74, x75, x76, x77, x78, x79, x80, x81, x82, x83, x84, x85, x86, x87, x88, x89, x90, x91, x92, yz0, yz1, yz2, yz3, Option.some.injEq, exists_eq_left', exists_eq_left, exists_and_left, V.ref.injEq, V.int.injEq, V.fn.injEq, V.bool.injEq, Ob.lst.injEq, Ob.tup.injEq, decide_eq_true_eq, decide_eq_false_iff_not, Bool.not_eq_true', Bool.not_eq_false', Bool.not_true, Bool.not_false, List.length_map, yz4, yz5, yz6, yz7, yz8, yz9, yz10, yz11, true_and, and_true, reduceCtorEq, Bool.false_eq_true, Bool.true_eq_false, if_true, if_false, false_implies, true_implies, forall_const, and_self, false_and, and_false, or_false, false_or, implies_true, Nat.reduceAdd, Nat.reduceSub, ne_eq, not_true_eq_false, not_false_eq_true, Nat.zero_le, exists_eq', exists_eq, Int.toNat_natCast, AH.set_self, List.cons.injEq, tl, f_number_by_powers, ha', la']
      refine ⟨fun _ => number_plain_ok (by exact o497 hn) hw ha hd hb hl hll h, fun _ => ⟨fun _ => number_plain_ok (by exact o497 hn) hw ha hd hb hl hll h, fun ht0 => ?_⟩⟩
      obtain ⟨j, rfl⟩ : ∃ j, t = j + 1 := ⟨t - 1, by exact o498 ht0⟩
      have hj : 2 ^ j < ds.length := by simpa using ht (by exact o499)
      have z0 : (0 : Int) ≤ ((j + 1 : Nat) : Int) - 1 := by exact o500
      have z1 : ((j + 1 : Nat) : Int) - 1 ≤ 1000 := by exact o501 h3 htk
      have z2 : (((j + 1 : Nat) : Int) - 1).toNat = j := by exact o502
      simp only [x0, x1, x2, x3, x4, x5, x6, x7, x9, x10, x11, x12, x13, x14, x15, x16, x17, x18, x19, x20, x21, x22, x23, x27, x28, x29, x30, x31, x32, x33, x34, x35, x36, x37, x38, x39, x40, x41, x42, x43, x44, x49, x50, x51, x52, x53, forR_eq, forL_eq, forE_eq, idx_eq, x54, x55, x56, x57, x58, x59, x60, x61, x62, x63, x64, x65, x66, x67, x68, x69, x70, x71, x72, x73, x74, x75, x76, x77, x78, x79, x80, x81, x82, x83, x84, x85, x86, x87, x88, x89, x90, x91, x92, yz0, yz1, yz2, yz3, Option.some.injEq, exists_eq_left', exists_eq_left, exists_and_left, V.ref.injEq, V.int.injEq, V.fn.injEq, V.bool.injEq, Ob.lst.injEq, Ob.tup.injEq, decide_eq_true_eq, decide_eq_false_iff_not, Bool.not_eq_true', Bool.not_eq_false', Bool.not_true, Bool.not_false, List.length_map, yz4, yz5, yz6, yz7, yz8, yz9, yz10, yz11, true_and, and_true, reduceCtorEq, Bool.false_eq_true, Bool.true_eq_false, if_true, if_false, false_implies, true_implies, forall_const, and_self, false_and, and_false, or_false, false_or, implies_true, Nat.reduceAdd, Nat.reduceSub, ne_eq, not_true_eq_false, not_false_eq_true, Nat.zero_le, exists_eq', exists_eq, Int.toNat_natCast, AH.set_self, List.cons.injEq, ha', la', z0, z1, z2, one64, Int.one_mul]
      have hcast : ((2 : Int) ^ j) = ((2 ^ j : Nat) : Int) := by push_cast; rfl
      have hp2 : 0 < 2 ^ j := Nat.pow_pos (by decide)
      refine cut_topn (i := ds.length - 2 ^ j) ha la' (by exact o503 hj hcast) (by exact o504 hp2) fun c₁ hc₁ => ?_
      have s₁ := Sub.new (ob := .lst ((ds.take (ds.length - 2 ^ j)).map V.int)) hc₁
      have hcs : IL (H.set c₁ (.lst ((ds.take (ds.length - 2 ^ j)).map V.int))) c₁ (ds.take (ds.length - 2 ^ j)) := il_set
      generalize H.set c₁ (.lst ((ds.take (ds.length - 2 ^ j)).map V.int)) = H₁ at *
      have lt : (ds.take (ds.length - 2 ^ j)).length = ds.length - 2 ^ j := by rw [List.length_take]; exact o505 hp2
      have ld : (ds.drop (ds.length - 2 ^ j)).length = 2 ^ j := by rw [List.length_drop]; exact o506 hj hp2
      refine ih (ds.length - 2 ^ j) (by exact o507 hm hj hp2) (n - 1) (by exact o508 hn hm hj hp2) lt hcs (hd.take _) (by rw [lt]; exact pow_small hb.1 (by exact o504 hp2) hl) (by exact o509 hll hp2 lt) (hp.sub s₁) fun c₂ H₂ hc₂ s₂ hf₂ => ?_
      have ha₂ := (s₁.trans s₂).il ha
      refine cut_from (i := ds.length - 2 ^ j) ha₂ la' (by exact o503 hj hcast) (by exact o504 hp2) fun c₃ hc₃ => ?_
      have s₃ := Sub.new (ob := .lst ((ds.drop (ds.length - 2 ^ j)).map V.int)) hc₃
      have hcs₃ : IL (H₂.set c₃ (.lst ((ds.drop (ds.length - 2 ^ j)).map V.int))) c₃ (ds.drop (ds.length - 2 ^ j)) := il_set
      generalize H₂.set c₃ (.lst ((ds.drop (ds.length - 2 ^ j)).map V.int)) = H₃ at *
      refine ih (2 ^ j) (by exact o510 hm hj) (n - 1) (by exact o511 hn hm hj) ld hcs₃ (hd.drop _) (by rw [ld]; exact pow_small hb.1 (by exact o175 hj) hl) (by exact o512 hll hj ld) (((hp.sub s₁).sub s₂).sub s₃) fun c₄ H₄ hc₄ s₄ hf₄ => ?_
      have S₄ := ((s₁.trans s₂).trans s₃).trans s₄
      obtain ⟨pr, hpr⟩ : ∃ pr, rs[j]? = some pr := ⟨_, List.getElem?_eq_getElem (by exact o513 h2 htk)⟩
      refine idx_natR j (S₄ _ _ h1) lr (by exact o514) hpr ?_
      have n1 := hor_lt (by exact o74 hb.1) (hd.take (ds.length - 2 ^ j))
      have n2 := hor_lt (by exact o74 hb.1) (hd.drop (ds.length - 2 ^ j))
      have n3 := hor_lt (by exact o74 hb.1) hd
      rw [lt] at n1
      rw [ld] at n2
      have e := hor_append (b := b) (ds := ds.take (ds.length - 2 ^ j)) (es := ds.drop (ds.length - 2 ^ j))
      rw [List.take_append_drop, ld] at e
      have p1 := pow_small hb.1 (show ds.length - 2 ^ j ≤ ds.length by exact o504 hp2) hl
      have p2 := pow_small hb.1 (show 2 ^ j ≤ ds.length by exact o175 hj) hl
      have p0 : (0 : Int) < b ^ (2 ^ j) := Int.pow_pos (by exact o74 hb.1)
      have m0 := Int.mul_nonneg n1.1 (Int.le_of_lt p0)
      refine mul_school_ok (by exact o515 hn) hw ((s₃.trans s₄).il hf₂) (S₄.il (h4 j pr hpr).1) (by exact o490 n1.1 n1.2 p1) (by exact o516 p2 p0) fun c₅ H₅ hc₅ s₅ hf₅ => ?_
      refine add_ok (by exact o517 hn) hw hf₅ (s₅.il hf₄) (by exact o518 hl n2.1 n3.2 e m0) (by exact o490 n2.1 n2.2 p2) fun c₆ H₆ hc₆ s₆ hf₆ => ?_
      rw [← e] at hf₆
      exact h c₆ H₆ (S₄.none (s₅.none hc₆)) ((S₄.trans s₅).trans s₆) hf₆
    simp only [x0, x1, x2, x3, x4, x5, x6, x7, x9, x10, x11, x12, x13, x14, x15, x16, x17, x18, x19, x20, x21, x22, x23, x27, x28, x29, x30, x31, x32, x33, x34, x35, x36, x37, x38, x39, x40, x41, x42, x43, x44, x49, x50, x51, x52, x53, forR_eq, forL_eq, forE_eq, idx_eq, x54, x55, x56, x57, x58, x59, x60, x61, x62, x63, x64, x65, x66, x67, x68, x69, x70, x71, x72, x73, x74, x75, x76, x77, x78, x79, x80, x81, x82, x83, x84, x85, x86, x87, x88, x89, x90, x91, x92, yz0, yz1, yz2, yz3, Option.some.injEq, exists_eq_left', exists_eq_left, exists_and_left, V.ref.injEq, V.int.injEq, V.fn.injEq, V.bool.injEq, Ob.lst.injEq, Ob.tup.injEq, decide_eq_true_eq, decide_eq_false_iff_not, Bool.not_eq_true', Bool.not_eq_false', Bool.not_true, Bool.not_false, List.length_map, yz4, yz5, yz6, yz7, yz8, yz9, yz10, yz11, true_and, and_true, reduceCtorEq, Bool.false_eq_true, Bool.true_eq_false, if_true, if_false, false_implies, true_implies, forall_const, and_self, false_and, and_false, or_false, false_or, implies_true, Nat.reduceAdd, Nat.reduceSub, ne_eq, not_true_eq_false, not_false_eq_true, Nat.zero_le, exists_eq', exists_eq, Int.toNat_natCast, AH.set_self, List.cons.injEq, f_number_by_powers, h1, lr, h2']
    obtain ⟨I, hI⟩ : ∃ I : Nat → Loc → AH → Prop, I = fun t l H' => H = H' ∧ t ≤ k ∧ l = [some (.ref a), some (.ref pc), some (.int b), some (.int w), some (.int least), some (.fn 21), some (.int ((t : Int) - 1)), none, none, none] := ⟨_, rfl⟩
    refine whl_in I k (by rw [hI]; exact ⟨rfl, Nat.le_refl _, rfl⟩) fun t l H' hk => ?_
    rw [hI] at hk
    obtain ⟨rfl, htk, rfl⟩ := hk
    try simp only [x0, x1, x2, x3, x4, x5, x6, x7, x9, x10, x11, x12, x13, x14, x15, x16, x17, x18, x19, x20, x21, x22, x23, x27, x28, x29, x30, x31, x32, x33, x34, x35, x36, x37, x38, x39, x40, x41, x42, x43, x44, x49, x50, x51, x52, x53, forR_eq, forL_eq, forE_eq, idx_eq, x54, x55, x56, x57, x58, x59, x60, x61, x62, x63, x64, x65, x66, x67, x68, x69, x70, x71, x72, x73, x74, x75, x76, x77, x78, x79, x80, x81, x82, x83, x84, x85, x86, x87, x88, x89, x90, x91, x92, yz0, yz1, yz2, yz3, Option.some.injEq, exists_eq_left', exists_eq_left, exists_and_left, V.ref.injEq, V.int.injEq, V.fn.injEq, V.bool.injEq, Ob.lst.injEq, Ob.tup.injEq, decide_eq_true_eq, decide_eq_false_iff_not, Bool.not_eq_true', Bool.not_eq_false', Bool.not_true, Bool.not_false, List.length_map, yz4, yz5, yz6, yz7, yz8, yz9, yz10, yz11, true_and, and_true, reduceCtorEq, Bool.false_eq_true, Bool.true_eq_false, if_true, if_false, false_implies, true_implies, forall_const, and_self, false_and, and_false, or_false, false_or, implies_true, Nat.reduceAdd, Nat.reduceSub, ne_eq, not_true_eq_false, not_false_eq_true, Nat.zero_le, exists_eq', exists_eq, Int.toNat_natCast, AH.set_self, List.cons.injEq]
    refine ⟨fun h0 => ?_, fun h0 => ?_⟩
    · have q := fin t htk (fun h => by exact o519 h0 h)
      simp only [x0, x1, x2, x3, x4, x5, x6, x7, x9, x10, x11, x12, x13, x14, x15, x16, x17, x18, x19, x20, x21, x22, x23, x27, x28, x29, x30, x31, x32, x33, x34, x35, x36, x37, x38, x39, x40, x41, x42, x43, x44, x49, x50, x51, x52, x53, forR_eq, forL_eq, forE_eq, idx_eq, x54, x55, x56, x57, x58, x59, x60, x61, x62, x63, x64, x65, x66, x67, x68, x69, x70, x71, x72, x73, x74, x75, x76, x77, x78, x79, x80, x81, x82, x83, x84, x85, x86, x87, x88, x89, x90, x91, x92, yz0, yz1, yz2, yz3, Option.some.injEq, exists_eq_left', exists_eq_left, exists_and_left, V.ref.injEq, V.int.injEq, V.fn.injEq, V.bool.injEq, Ob.lst.injEq, Ob.tup.injEq, decide_eq_true_eq, decide_eq_false_iff_not, Bool.not_eq_true', Bool.not_eq_false', Bool.not_true, Bool.not_false, List.length_map, yz4, yz5, yz6, yz7, yz8, yz9, yz10, yz11, true_and, and_true, reduceCtorEq, Bool.false_eq_true, Bool.true_eq_false, if_true, if_false, false_implies, true_implies, forall_const, and_self, false_and, and_false, or_false, false_or, implies_true, Nat.reduceAdd, Nat.reduceSub, ne_eq, not_true_eq_false, not_false_eq_true, Nat.zero_le, exists_eq', exists_eq, Int.toNat_natCast, AH.set_self, List.cons.injEq, tl, f_number_by_powers, ha', la'] at q ⊢
      exact q
    · obtain ⟨j, rfl⟩ : ∃ j, t = j + 1 := ⟨t - 1, by exact o520 h0⟩
      have z0 : (0 : Int) ≤ ((j + 1 : Nat) : Int) - 1 := by exact o500
      have z1 : ((j + 1 : Nat) : Int) - 1 ≤ 1000 := by exact o501 h3 htk
      have z2 : (((j + 1 : Nat) : Int) - 1).toNat = j := by exact o502
      simp only [x0, x1, x2, x3, x4, x5, x6, x7, x9, x10, x11, x12, x13, x14, x15, x16, x17, x18, x19, x20, x21, x22, x23, x27, x28, x29, x30, x31, x32, x33, x34, x35, x36, x37, x38, x39, x40, x41, x42, x43, x44, x49, x50, x51, x52, x53, forR_eq, forL_eq, forE_eq, idx_eq, x54, x55, x56, x57, x58, x59, x60, x61, x62, x63, x64, x65, x66, x67, x68, x69, x70, x71, x72, x73, x74, x75, x76, x77, x78, x79, x80, x81, x82, x83, x84, x85, x86, x87, x88, x89, x90, x91, x92, yz0, yz1, yz2, yz3, Option.some.injEq, exists_eq_left', exists_eq_left, exists_and_left, V.ref.injEq, V.int.injEq, V.fn.injEq, V.bool.injEq, Ob.lst.injEq, Ob.tup.injEq, decide_eq_true_eq, decide_eq_false_iff_not, Bool.not_eq_true', Bool.not_eq_false', Bool.not_true, Bool.not_false, List.length_map, yz4, yz5, yz6, yz7, yz8, yz9, yz10, yz11, true_and, and_true, reduceCtorEq, Bool.false_eq_true, Bool.true_eq_false, if_true, if_false, false_implies, true_implies, forall_const, and_self, false_and, and_false, or_false, false_or, implies_true, Nat.reduceAdd, Nat.reduceSub, ne_eq, not_true_eq_false, not_false_eq_true, Nat.zero_le, exists_eq', exists_eq, Int.toNat_natCast, AH.set_self, List.cons.injEq, ha', la', z0, z1, z2, one64, Int.one_mul]
      refine ⟨fun hlen => ⟨j, by exact o217, ?_⟩, fun hlen => ?_⟩
      · rw [hI]
        exact ⟨rfl, by exact o521 htk, by rw [show ((j + 1 : Nat) : Int) - 1 - 1 = (j : Int) - 1 by exact o522]⟩
      · have hcast : ((2 : Int) ^ j) = ((2 ^ j : Nat) : Int) := by push_cast; rfl
        have q := fin (j + 1) htk (fun _ => by have hlen' := hlen; rw [hcast] at hlen'; rw [Nat.add_sub_cancel]; exact o523 hlen hcast)
        simp only [x0, x1, x2, x3, x4, x5, x6, x7, x9, x10, x11, x12, x13, x14, x15, x16, x17, x18, x19, x20, x21, x22, x23, x27, x28, x29, x30, x31, x32, x33, x34, x35, x36, x37, x38, x39, x40, x41, x42, x43, x44, x49, x50, x51, x52, x53, forR_eq, forL_eq, forE_eq, idx_eq, x54, x55, x56, x57, x58, x59, x60, x61, x62, x63, x64, x65, x66, x67, x68, x69, x70, x71, x72, x73, x74, x75, x76, x77, x78, x79, x80, x81, x82, x83, x84, x85, x86, x87, x88, x89, x90, x91, x92, yz0, yz1, yz2, yz3, Option.some.injEq, exists_eq_left', exists_eq_left, exists_and_left, V.ref.injEq, V.int.injEq, V.fn.injEq, V.bool.injEq, Ob.lst.injEq, Ob.tup.injEq, decide_eq_true_eq, decide_eq_false_iff_not, Bool.not_eq_true', Bool.not_eq_false', Bool.not_true, Bool.not_false, List.length_map, yz4, yz5, yz6, yz7, yz8, yz9, yz10, yz11, true_and, and_true, reduceCtorEq, Bool.false_eq_true, Bool.true_eq_false, if_true, if_false, false_implies, true_implies, forall_const, and_self, false_and, and_false, or_false, false_or, implies_true, Nat.reduceAdd, Nat.reduceSub, ne_eq, not_true_eq_false, not_false_eq_true, Nat.zero_le, exists_eq', exists_eq, Int.toNat_natCast, AH.set_self, List.cons.injEq, tl, f_number_by_powers, ha', la', z0, z1, z2, one64, Int.one_mul] at q ⊢
        exact q
theorem from_digits_ok {n w : Nat} (hn : 100 ≤ n) (hw : WOk w B) {H : AH} {a : Nat} {b least : Int} {ds : List Int} {Q : PQ} (ha : IL H a ds) (hd : Lim b ds) (hb : 2 ≤ b ∧ b < 2 ^ 20) (hl : b ^ ds.length < 2 ^ 60) (hll : ds.length ≤ 60) (h : Ret H (limbs B (hor b ds)) Q) :
    callS theDefs n 20 [.ref a, .int b, .int w, .int least, .fn 21] H Q := by
  refine call_of (by exact o478 hn) rfl rfl ?_
  have hB := hw.two
  have la' := lim_small (show ds.length ≤ 1000 by exact o524 hll)
  have l0 : 0 ≤ lim := by exact o180
  have ha' : H a = some (.lst (ds.map V.int)) := ha
  simp only [x0, x1, x2, x3, x4, x5, x6, x7, x9, x10, x11, x12, x13, x14, x15, x16, x17, x18, x19, x20, x21, x22, x23, x27, x28, x29, x30, x31, x32, x33, x34, x35, x36, x37, x38, x39, x40, x41, x42, x43, x44, x49, x50, x51, x52, x53, forR_eq, forL_eq, forE_eq, idx_eq, x54, x55, x56, x57, x58, x59, x60, x61, x62, x63, x64, x65, x66, x67, x68, x69, x70, x71, x72, x73, x74, x75, x76, x77, x78, x79, x80, x81, x82, x83, x84, x85, x86, x87, x88, x89, x90, x91, x92, yz0, yz1, yz2, yz3, Option.some.injEq, exists_eq_left', exists_eq_left, exists_and_left, V.ref.injEq, V.int.injEq, V.fn.injEq, V.bool.injEq, Ob.lst.injEq, Ob.tup.injEq, decide_eq_true_eq, decide_eq_false_iff_not, Bool.not_eq_true', Bool.not_eq_false', Bool.not_true, Bool.not_false, List.length_map, yz4, yz5, yz6, yz7, yz8, yz9, yz10, yz11, true_and, and_true, reduceCtorEq, Bool.false_eq_true, Bool.true_eq_false, if_true, if_false, false_implies, true_implies, forall_const, and_self, false_and, and_false, or_false, false_or, implies_true, Nat.reduceAdd, Nat.reduceSub, ne_eq, not_true_eq_false, not_false_eq_true, Nat.zero_le, exists_eq', exists_eq, Int.toNat_natCast, AH.set_self, List.cons.injEq, f_from_digits]
  refine check_base_ok (by exact o479 hn) hb.1 ?_
  refine ⟨ds.map V.int, by simpa using la', ?_⟩
  obtain ⟨I, hI⟩ : ∃ I : Nat → Loc → AH → Prop, I = fun m l H' => H = H' ∧ ∃ z, l = [some (.ref a), some (.int b), some (.int w), some (.int least), some (.fn 21), z, none] := ⟨_, rfl⟩
  have fin : ∀ c k H' z, H c = none → Sub H H' → PL B b H' c k → execsS (callS theDefs (n - 1)) (.cons (.ret (.call (.fn 19) (.cons (.var 0) (.cons (.var 6) (.cons (.var 1) (.cons (.var 2) (.cons (.var 3) (.cons (.var 4) .nil)))))))) .nil) [some (.ref a), some (.int b), some (.int w), some (.int least), some (.fn 21), z, some (.ref c)] H' fun f _ H' => match f with | .next => Q .none H' | .ret v => Q v H' := fun c k H' z hc hs hp => by
    try simp only [x0, x1, x2, x3, x4, x5, x6, x7, x9, x10, x11, x12, x13, x14, x15, x16, x17, x18, x19, x20, x21, x22, x23, x27, x28, x29, x30, x31, x32, x33, x34, x35, x36, x37, x38, x39, x40, x41, x42, x43, x44, x49, x50, x51, x52, x53, forR_eq, forL_eq, forE_eq, idx_eq, x54, x55, x56, x57, x58, x59, x60, x61, x62, x63, x64, x65, x66, x67, x68, x69, x70, x71, x72, x73, x74, x75, x76, x77, x78, x79, x80, x81, x82, x83, x84, x85, x86, x87, x88, x89, x90, x91, x92, yz0, yz1, yz2, yz3, Option.some.injEq, exists_eq_left', exists_eq_left, exists_and_left, V.ref.injEq, V.int.injEq, V.fn.injEq, V.bool.injEq, Ob.lst.injEq, Ob.tup.injEq, decide_eq_true_eq, decide_eq_false_iff_not, Bool.not_eq_true', Bool.not_eq_false', Bool.not_true, Bool.not_false, List.length_map, yz4, yz5, yz6, yz7, yz8, yz9, yz10, yz11, true_and, and_true, reduceCtorEq, Bool.false_eq_true, Bool.true_eq_false, if_true, if_false, false_implies, true_implies, forall_const, and_self, false_and, and_false, or_false, false_or, implies_true, Nat.reduceAdd, Nat.reduceSub, ne_eq, not_true_eq_false, not_false_eq_true, Nat.zero_le, exists_eq', exists_eq, Int.toNat_natCast, AH.set_self, List.cons.injEq]
    exact number_by_powers_ok hw hb ds.length (n - 1) (by exact o525 hn hll) rfl (hs.il ha) hd hl (by exact o524 hll) hp fun c' H'' hc' s hf => h c' H'' (hs.none hc') (hs.trans s) hf
  refine forL_in I (by rw [hI]; exact ⟨rfl, _, rfl⟩) (fun m l H' hj => ?_) (fun m l H' d he hj => ?_) fun l H' hj => ?_
  · rw [hI] at hj
    obtain ⟨rfl, z, rfl⟩ := hj
    exact ha
  · rw [hI] at hj
    obtain ⟨rfl, z, rfl⟩ := hj
    have bd := hd.at he
    try simp only [x0, x1, x2, x3, x4, x5, x6, x7, x9, x10, x11, x12, x13, x14, x15, x16, x17, x18, x19, x20, x21, x22, x23, x27, x28, x29, x30, x31, x32, x33, x34, x35, x36, x37, x38, x39, x40, x41, x42, x43, x44, x49, x50, x51, x52, x53, forR_eq, forL_eq, forE_eq, idx_eq, x54, x55, x56, x57, x58, x59, x60, x61, x62, x63, x64, x65, x66, x67, x68, x69, x70, x71, x72, x73, x74, x75, x76, x77, x78, x79, x80, x81, x82, x83, x84, x85, x86, x87, x88, x89, x90, x91, x92, yz0, yz1, yz2, yz3, Option.some.injEq, exists_eq_left', exists_eq_left, exists_and_left, V.ref.injEq, V.int.injEq, V.fn.injEq, V.bool.injEq, Ob.lst.injEq, Ob.tup.injEq, decide_eq_true_eq, decide_eq_false_iff_not, Bool.not_eq_true', Bool.not_eq_false', Bool.not_true, Bool.not_false, List.length_map, yz4, yz5, yz6, yz7, yz8, yz9, yz10, yz11, true_and, and_true, reduceCtorEq, Bool.false_eq_true, Bool.true_eq_false, if_true, if_false, false_implies, true_implies, forall_const, and_self, false_and, and_false, or_false, false_or, implies_true, Nat.reduceAdd, Nat.reduceSub, ne_eq, not_true_eq_false, not_false_eq_true, Nat.zero_le, exists_eq', exists_eq, Int.toNat_natCast, AH.set_self, List.cons.injEq]
    refine ⟨fun hc => absurd bd.1 (by exact o526 hc), fun hc => ⟨fun hc' => absurd bd.2 (by exact o527 hc'), fun hc' => ?_⟩⟩
    rw [hI]; exact ⟨rfl, _, rfl⟩
  · rw [hI] at hj
    obtain ⟨rfl, z, rfl⟩ := hj
    try simp only [x0, x1, x2, x3, x4, x5, x6, x7, x9, x10, x11, x12, x13, x14, x15, x16, x17, x18, x19, x20, x21, x22, x23, x27, x28, x29, x30, x31, x32, x33, x34, x35, x36, x37, x38, x39, x40, x41, x42, x43, x44, x49, x50, x51, x52, x53, forR_eq, forL_eq, forE_eq, idx_eq, x54, x55, x56, x57, x58, x59, x60, x61, x62, x63, x64, x65, x66, x67, x68, x69, x70, x71, x72, x73, x74, x75, x76, x77, x78, x79, x80, x81, x82, x83, x84, x85, x86, x87, x88, x89, x90, x91, x92, yz0, yz1, yz2, yz3, Option.some.injEq, exists_eq_left', exists_eq_left, exists_and_left, V.ref.injEq, V.int.injEq, V.fn.injEq, V.bool.injEq, Ob.lst.injEq, Ob.tup.injEq, decide_eq_true_eq, decide_eq_false_iff_not, Bool.not_eq_true', Bool.not_eq_false', Bool.not_true, Bool.not_false, List.length_map, yz4, yz5, yz6, yz7, yz8, yz9, yz10, yz11, true_and, and_true, reduceCtorEq, Bool.false_eq_true, Bool.true_eq_false, if_true, if_false, false_implies, true_implies, forall_const, and_self, false_and, and_false, or_false, false_or, implies_true, Nat.reduceAdd, Nat.reduceSub, ne_eq, not_true_eq_false, not_false_eq_true, Nat.zero_le, exists_eq', exists_eq, Int.toNat_natCast, AH.set_self, List.cons.injEq]
    intro c hc
    have hac : (H.set c (.lst [])) a = some (.lst (ds.map V.int)) := (Sub.new hc).il ha
    simp only [x0, x1, x2, x3, x4, x5, x6, x7, x9, x10, x11, x12, x13, x14, x15, x16, x17, x18, x19, x20, x21, x22, x23, x27, x28, x29, x30, x31, x32, x33, x34, x35, x36, x37, x38, x39, x40, x41, x42, x43, x44, x49, x50, x51, x52, x53, forR_eq, forL_eq, forE_eq, idx_eq, x54, x55, x56, x57, x58, x59, x60, x61, x62, x63, x64, x65, x66, x67, x68, x69, x70, x71, x72, x73, x74, x75, x76, x77, x78, x79, x80, x81, x82, x83, x84, x85, x86, x87, x88, x89, x90, x91, x92, yz0, yz1, yz2, yz3, Option.some.injEq, exists_eq_left', exists_eq_left, exists_and_left, V.ref.injEq, V.int.injEq, V.fn.injEq, V.bool.injEq, Ob.lst.injEq, Ob.tup.injEq, decide_eq_true_eq, decide_eq_false_iff_not, Bool.not_eq_true', Bool.not_eq_false', Bool.not_true, Bool.not_false, List.length_map, yz4, yz5, yz6, yz7, yz8, yz9, yz10, yz11, true_and, and_true, reduceCtorEq, Bool.false_eq_true, Bool.true_eq_false, if_true, if_false, false_implies, true_implies, forall_const, and_self, false_and, and_false, or_false, false_or, implies_true, Nat.reduceAdd, Nat.reduceSub, ne_eq, not_true_eq_false, not_false_eq_true, Nat.zero_le, exists_eq', exists_eq, Int.toNat_natCast, AH.set_self, List.cons.injEq, hac, la']
    refine ⟨fun h1 => ?_, fun h1 => ?_⟩
    · refine nat_of_ok (by exact o479 hn) hw (show 0 ≤ b by exact o76 hb.1) (by exact o413 hb.2) fun c₁ H₁ hc₁ s₁ h₁ => ?_
      have s₁' := (Sub.new hc).trans s₁
      have hcc : c₁ ≠ c := fun q => by rw [q, AH.set_self] at hc₁; cases hc₁
      have hc' : H₁ c = some (.lst []) := s₁ _ _ AH.set_self
      simp only [x0, x1, x2, x3, x4, x5, x6, x7, x9, x10, x11, x12, x13, x14, x15, x16, x17, x18, x19, x20, x21, x22, x23, x27, x28, x29, x30, x31, x32, x33, x34, x35, x36, x37, x38, x39, x40, x41, x42, x43, x44, x49, x50, x51, x52, x53, forR_eq, forL_eq, forE_eq, idx_eq, x54, x55, x56, x57, x58, x59, x60, x61, x62, x63, x64, x65, x66, x67, x68, x69, x70, x71, x72, x73, x74, x75, x76, x77, x78, x79, x80, x81, x82, x83, x84, x85, x86, x87, x88, x89, x90, x91, x92, yz0, yz1, yz2, yz3, Option.some.injEq, exists_eq_left', exists_eq_left, exists_and_left, V.ref.injEq, V.int.injEq, V.fn.injEq, V.bool.injEq, Ob.lst.injEq, Ob.tup.injEq, decide_eq_true_eq, decide_eq_false_iff_not, Bool.not_eq_true', Bool.not_eq_false', Bool.not_true, Bool.not_false, List.length_map, yz4, yz5, yz6, yz7, yz8, yz9, yz10, yz11, true_and, and_true, reduceCtorEq, Bool.false_eq_true, Bool.true_eq_false, if_true, if_false, false_implies, true_implies, forall_const, and_self, false_and, and_false, or_false, false_or, implies_true, Nat.reduceAdd, Nat.reduceSub, ne_eq, not_true_eq_false, not_false_eq_true, Nat.zero_le, exists_eq', exists_eq, Int.toNat_natCast, AH.set_self, List.cons.injEq, hc', l0]
      have hlen : 1 < ds.length := by split at h1 <;> (first | exact o528 h1 | exact o529 (by assumption) h1)
      obtain ⟨I₂, hI₂⟩ : ∃ I : Nat → Loc → AH → Prop, I = fun k l H' => ∃ rs : List Nat, l = [some (.ref a), some (.int b), some (.int w), some (.int least), some (.fn 21), z, some (.ref c)] ∧ Sub H H' ∧ H' c = some (.lst (rs.map V.ref)) ∧
        (∀ i r, rs[i]? = some r → r ≠ c ∧ IL H' r (limbs B (b ^ (2 ^ i))) ∧ b ^ (2 ^ i) < 2 ^ 60) ∧ 1 ≤ rs.length ∧ 2 ^ (rs.length - 1) < ds.length ∧ k = ds.length - rs.length := ⟨_, rfl⟩
      have hb60 : b < 2 ^ 60 := by exact o530 hb.2
      refine whl_in I₂ (ds.length - 1) (by
        rw [hI₂]
        refine ⟨[c₁], rfl, s₁'.set hc, AH.set_self, fun i r e => ?_, by simp, by simpa using hlen, rfl⟩
        cases i with
        | zero =>
          simp at e; subst e
          refine ⟨hcc, ?_, by simpa [Int.pow_succ] using hb60⟩
          show (H₁.set c _) c₁ = _
          rw [AH.set_ne hcc]
          have e0 : b ^ (2 ^ 0) = b := by simp [Int.pow_succ]
          rw [e0]; exact h₁
        | succ i => simp at e) fun k l H' hk => ?_
      rw [hI₂] at hk
      obtain ⟨rs, rfl, hs, hf, hrs, hr1, hr2, rfl⟩ := hk
      have hpw : rs.length - 1 < 2 ^ (rs.length - 1) := Nat.lt_two_pow_self
      have lr := lim_small (show rs.length ≤ 1000 by exact o531 hll hr2 hpw)
      have ha'' : H' a = some (.lst (ds.map V.int)) := hs.il ha
      have z0 : (0 : Int) ≤ (rs.length : Int) - 1 := by exact o532 hr1
      have z1 : (rs.length : Int) - 1 ≤ 1000 := by exact o533 hll hr2 hpw
      have z2 : ((rs.length : Int) - 1).toNat = rs.length - 1 := by exact o4
      have two64 : (2 : Int).natAbs < 2 ^ 64 := by decide
      simp only [x0, x1, x2, x3, x4, x5, x6, x7, x9, x10, x11, x12, x13, x14, x15, x16, x17, x18, x19, x20, x21, x22, x23, x27, x28, x29, x30, x31, x32, x33, x34, x35, x36, x37, x38, x39, x40, x41, x42, x43, x44, x49, x50, x51, x52, x53, forR_eq, forL_eq, forE_eq, idx_eq, x54, x55, x56, x57, x58, x59, x60, x61, x62, x63, x64, x65, x66, x67, x68, x69, x70, x71, x72, x73, x74, x75, x76, x77, x78, x79, x80, x81, x82, x83, x84, x85, x86, x87, x88, x89, x90, x91, x92, yz0, yz1, yz2, yz3, Option.some.injEq, exists_eq_left', exists_eq_left, exists_and_left, V.ref.injEq, V.int.injEq, V.fn.injEq, V.bool.injEq, Ob.lst.injEq, Ob.tup.injEq, decide_eq_true_eq, decide_eq_false_iff_not, Bool.not_eq_true', Bool.not_eq_false', Bool.not_true, Bool.not_false, List.length_map, yz4, yz5, yz6, yz7, yz8, yz9, yz10, yz11, true_and, and_true, reduceCtorEq, Bool.false_eq_true, Bool.true_eq_false, if_true, if_false, false_implies, true_implies, forall_const, and_self, false_and, and_false, or_false, false_or, implies_true, Nat.reduceAdd, Nat.reduceSub, ne_eq, not_true_eq_false, not_false_eq_true, Nat.zero_le, exists_eq', exists_eq, Int.toNat_natCast, AH.set_self, List.cons.injEq, hf, lr, ha'', la', z0, z1, z2, two64]
      have hcast : ((2 : Int) ^ (rs.length - 1)) = ((2 ^ (rs.length - 1) : Nat) : Int) := by push_cast; rfl
      have hdbl : 2 ^ rs.length = 2 * 2 ^ (rs.length - 1) := by
        conv => lhs; rw [show rs.length = rs.length - 1 + 1 by exact o105 hr1, Nat.pow_succ]
        exact o534
      refine ⟨fun hlt => ?_, fun hlt => ?_⟩
      · have hlt' : 2 ^ rs.length < ds.length := by rw [hcast] at hlt; exact o535 hdbl hlt
        obtain ⟨pr, hpr⟩ : ∃ pr, rs[rs.length - 1]? = some pr := ⟨_, List.getElem?_eq_getElem (by exact o536 hr1)⟩
        have hpr' : rs.getLast? = some pr := by rw [List.getLast?_eq_getElem?]; exact hpr
        obtain ⟨g1, g2, g3⟩ := hrs _ _ hpr
        refine idx_lastR hf lr hpr' (idx_lastR hf lr hpr' ?_)
        have p0 : (0 : Int) < b ^ (2 ^ (rs.length - 1)) := Int.pow_pos (by exact o74 hb.1)
        refine mul_school_ok (by exact o537 hn) hw g2 g2 (by exact o516 g3 p0) (by exact o516 g3 p0) fun c₂ H₂ hc₂ s₂ hf₂ => ?_
        have hsq : b ^ (2 ^ (rs.length - 1)) * b ^ (2 ^ (rs.length - 1)) = b ^ (2 ^ rs.length) := by rw [← Int.pow_add, hdbl]; congr 1; exact o538
        rw [hsq] at hf₂
        have hf₂' : H₂ c = some (.lst (rs.map V.ref)) := s₂ _ _ hf
        simp only [x0, x1, x2, x3, x4, x5, x6, x7, x9, x10, x11, x12, x13, x14, x15, x16, x17, x18, x19, x20, x21, x22, x23, x27, x28, x29, x30, x31, x32, x33, x34, x35, x36, x37, x38, x39, x40, x41, x42, x43, x44, x49, x50, x51, x52, x53, forR_eq, forL_eq, forE_eq, idx_eq, x54, x55, x56, x57, x58, x59, x60, x61, x62, x63, x64, x65, x66, x67, x68, x69, x70, x71, x72, x73, x74, x75, x76, x77, x78, x79, x80, x81, x82, x83, x84, x85, x86, x87, x88, x89, x90, x91, x92, yz0, yz1, yz2, yz3, Option.some.injEq, exists_eq_left', exists_eq_left, exists_and_left, V.ref.injEq, V.int.injEq, V.fn.injEq, V.bool.injEq, Ob.lst.injEq, Ob.tup.injEq, decide_eq_true_eq, decide_eq_false_iff_not, Bool.not_eq_true', Bool.not_eq_false', Bool.not_true, Bool.not_false, List.length_map, yz4, yz5, yz6, yz7, yz8, yz9, yz10, yz11, true_and, and_true, reduceCtorEq, Bool.false_eq_true, Bool.true_eq_false, if_true, if_false, false_implies, true_implies, forall_const, and_self, false_and, and_false, or_false, false_or, implies_true, Nat.reduceAdd, Nat.reduceSub, ne_eq, not_true_eq_false, not_false_eq_true, Nat.zero_le, exists_eq', exists_eq, Int.toNat_natCast, AH.set_self, List.cons.injEq, hf₂', lr]
        refine ⟨ds.length - (rs.length + 1), by exact o539 hr2 hpw, ?_⟩
        rw [hI₂]
        have hne₂ : c₂ ≠ c := fun q => by rw [q, hf] at hc₂; cases hc₂
        refine ⟨rs ++ [c₂], rfl, (hs.trans s₂).set hc, by rw [AH.set_self, bin_refs], fun i r e => ?_, by simp, by simpa using hlt', by simp⟩
        rw [List.getElem?_append] at e
        split at e
        · obtain ⟨q1, q2, q3⟩ := hrs i r e
          refine ⟨q1, ?_, q3⟩
          show (H₂.set c _) r = _
          rw [AH.set_ne q1]; exact s₂.il q2
        · have hi : i = rs.length := by
            rename_i hge
            rcases Nat.lt_or_ge (i - rs.length) 1 with z | z
            · exact o438 hge z
            · rw [List.getElem?_eq_none (by simpa using z)] at e; cases e
          subst hi
          simp at e; subst e
          refine ⟨hne₂, ?_, pow_small hb.1 (by exact o175 hlt') hl⟩
          show (H₂.set c _) c₂ = _
          rw [AH.set_ne hne₂]; exact hf₂
      · have q := fin c rs.length H' z hc hs ⟨rs, hf, rfl, by exact o540 hll hr2 hpw, fun i r e => ⟨(hrs i r e).2.1, by have := (hrs i r e).2.2; exact o541 this⟩⟩
        try simp only [x0, x1, x2, x3, x4, x5, x6, x7, x9, x10, x11, x12, x13, x14, x15, x16, x17, x18, x19, x20, x21, x22, x23, x27, x28, x29, x30, x31, x32, x33, x34, x35, x36, x37, x38, x39, x40, x41, x42, x43, x44, x49, x50, x51, x52, x53, forR_eq, forL_eq, forE_eq, idx_eq, x54, x55, x56, x57, x58, x59, x60, x61, x62, x63, x64, x65, x66, x67, x68, x69, x70, x71, x72, x73, x74, x75, x76, x77, x78, x79, x80, x81, x82, x83, x84, x85, x86, x87, x88, x89, x90, x91, x92, yz0, yz1, yz2, yz3, Option.some.injEq, exists_eq_left', exists_eq_left, exists_and_left, V.ref.injEq, V.int.injEq, V.fn.injEq, V.bool.injEq, Ob.lst.injEq, Ob.tup.injEq, decide_eq_true_eq, decide_eq_false_iff_not, Bool.not_eq_true', Bool.not_eq_false', Bool.not_true, Bool.not_false, List.length_map, yz4, yz5, yz6, yz7, yz8, yz9, yz10, yz11, true_and, and_true, reduceCtorEq, Bool.false_eq_true, Bool.true_eq_false, if_true, if_false, false_implies, true_implies, forall_const, and_self, false_and, and_false, or_false, false_or, implies_true, Nat.reduceAdd, Nat.reduceSub, ne_eq, not_true_eq_false, not_false_eq_true, Nat.zero_le, exists_eq', exists_eq, Int.toNat_natCast, AH.set_self, List.cons.injEq] at q ⊢
        exact q
    · have q := fin c 0 _ z hc (.new hc) ⟨[], AH.set_self, rfl, by exact o482, fun i r e => by simp at e⟩
      try simp only [x0, x1, x2, x3, x4, x5, x6, x7, x9, x10, x11, x12, x13, x14, x15, x16, x17, x18, x19, x20, x21, x22, x23, x27, x28, x29, x30, x31, x32, x33, x34, x35, x36, x37, x38, x39, x40, x41, x42, x43, x44, x49, x50, x51, x52, x53, forR_eq, forL_eq, forE_eq, idx_eq, x54, x55, x56, x57, x58, x59, x60, x61, x62, x63, x64, x65, x66, x67, x68, x69, x70, x71, x72, x73, x74, x75, x76, x77, x78, x79, x80, x81, x82, x83, x84, x85, x86, x87, x88, x89, x90, x91, x92, yz0, yz1, yz2, yz3, Option.some.injEq, exists_eq_left', exists_eq_left, exists_and_left, V.ref.injEq, V.int.injEq, V.fn.injEq, V.bool.injEq, Ob.lst.injEq, Ob.tup.injEq, decide_eq_true_eq, decide_eq_false_iff_not, Bool.not_eq_true', Bool.not_eq_false', Bool.not_true, Bool.not_false, List.length_map, yz4, yz5, yz6, yz7, yz8, yz9, yz10, yz11, true_and, and_true, reduceCtorEq, Bool.false_eq_true, Bool.true_eq_false, if_true, if_false, false_implies, true_implies, forall_const, and_self, false_and, and_false, or_false, false_or, implies_true, Nat.reduceAdd, Nat.reduceSub, ne_eq, not_true_eq_false, not_false_eq_true, Nat.zero_le, exists_eq', exists_eq, Int.toNat_natCast, AH.set_self, List.cons.injEq] at q ⊢
      exact q
end Mine
end
section
open PySem PySem.Calls PySem.W PyProof.Rows
set_option maxRecDepth 100000
namespace Mine
variable {B : Int} {Φ : Phi}
noncomputable def Bd (H : AH) (bd p : Nat) (n : Int) : Prop := H bd = some (.lst [V.int n, V.ref p])
theorem idx_gen {H : AH} {r : Nat} {xs : List V} {k : Int} (i : Nat) {y : V} {Q : PQ} (h : H r = some (.lst xs)) (hl : xs.length ≤ lim) (hk : k = (i : Int)) (hx : xs[i]? = some y) (q : Q y H) : idxS (.ref r) (.int k) H Q :=
  ⟨r, k, xs, y, rfl, rfl, h, hl, .inl ⟨by exact o132 hk, by subst hk; simpa using hx⟩, q⟩
theorem peg_ok {n : Nat} (hn : 1 ≤ n) {H : AH} {bd p : Nat} {k many : Int} {pegs : List Int} {Q : PQ} (hb : Bd H bd p k) (hp : IL H p pegs) (hpb : p ≠ bd) (hk : 0 ≤ k ∧ k ≤ 10000) (hl : pegs.length ≤ 1000) (hm : 0 < many)
    (h : ∀ r, 0 ≤ r → r < many → Q (.int r) (H.set bd (.lst [V.int (k + 1), V.ref p]))) : callS theDefs n 28 [.ref bd, .int many] H Q := by
  refine call_of hn rfl rfl ?_
  have l2 : [V.int k, V.ref p].length ≤ lim := le_lim (by simp)
  have l3 : [V.int (k + 1), V.ref p].length ≤ lim := le_lim (by simp)
  have l4 : 0 + 1 + 1 ≤ lim := le_lim (by simp)
  have lp := lim_small hl
  have e0 : (0 : Int).toNat = 0 := rfl
  have i2 : (0 : Int) < ((0 + 1 + 1 : Nat) : Int) := by decide
  have hb' : H bd = some (.lst [V.int k, V.ref p]) := hb
  simp only [x0, x1, x2, x3, x4, x5, x6, x7, x9, x10, x11, x12, x13, x14, x15, x16, x17, x18, x19, x20, x21, x22, x23, x27, x28, x29, x30, x31, x32, x33, x34, x35, x36, x37, x38, x39, x40, x41, x42, x43, x44, x49, x50, x51, x52, x53, forR_eq, forL_eq, forE_eq, idx_eq, x54, x55, x56, x57, x58, x59, x60, x61, x62, x63, x64, x65, x66, x67, x68, x69, x70, x71, x72, x73, x74, x75, x76, x77, x78, x79, x80, x81, x82, x83, x84, x85, x86, x87, x88, x89, x90, x91, x92, yz0, yz1, yz2, yz3, Option.some.injEq, exists_eq_left', exists_eq_left, exists_and_left, V.ref.injEq, V.int.injEq, V.fn.injEq, V.bool.injEq, Ob.lst.injEq, Ob.tup.injEq, decide_eq_true_eq, decide_eq_false_iff_not, Bool.not_eq_true', Bool.not_eq_false', Bool.not_true, Bool.not_false, List.length_map, yz4, yz5, yz6, yz7, yz8, yz9, yz10, yz11, true_and, and_true, reduceCtorEq, Bool.false_eq_true, Bool.true_eq_false, if_true, if_false, false_implies, true_implies, forall_const, and_self, false_and, and_false, or_false, false_or, implies_true, Nat.reduceAdd, Nat.reduceSub, ne_eq, not_true_eq_false, not_false_eq_true, Nat.zero_le, exists_eq', exists_eq, Int.toNat_natCast, AH.set_self, List.cons.injEq, f_law_peg]
  refine idx_gen 0 hb l2 rfl rfl ?_
  simp only [x0, x1, x2, x3, x4, x5, x6, x7, x9, x10, x11, x12, x13, x14, x15, x16, x17, x18, x19, x20, x21, x22, x23, x27, x28, x29, x30, x31, x32, x33, x34, x35, x36, x37, x38, x39, x40, x41, x42, x43, x44, x49, x50, x51, x52, x53, forR_eq, forL_eq, forE_eq, idx_eq, x54, x55, x56, x57, x58, x59, x60, x61, x62, x63, x64, x65, x66, x67, x68, x69, x70, x71, x72, x73, x74, x75, x76, x77, x78, x79, x80, x81, x82, x83, x84, x85, x86, x87, x88, x89, x90, x91, x92, yz0, yz1, yz2, yz3, Option.some.injEq, exists_eq_left', exists_eq_left, exists_and_left, V.ref.injEq, V.int.injEq, V.fn.injEq, V.bool.injEq, Ob.lst.injEq, Ob.tup.injEq, decide_eq_true_eq, decide_eq_false_iff_not, Bool.not_eq_true', Bool.not_eq_false', Bool.not_true, Bool.not_false, List.length_map, yz4, yz5, yz6, yz7, yz8, yz9, yz10, yz11, true_and, and_true, reduceCtorEq, Bool.false_eq_true, Bool.true_eq_false, if_true, if_false, false_implies, true_implies, forall_const, and_self, false_and, and_false, or_false, false_or, implies_true, Nat.reduceAdd, Nat.reduceSub, ne_eq, not_true_eq_false, not_false_eq_true, Nat.zero_le, exists_eq', exists_eq, Int.toNat_natCast, AH.set_self, List.cons.injEq, hb', l4, e0, i2]
  refine ⟨Int.le_refl _, ?_⟩
  have hb₂ : (H.set bd (.lst [V.int (k + 1), V.ref p])) bd = some (.lst [V.int (k + 1), V.ref p]) := AH.set_self
  have hp₂ : IL (H.set bd (.lst [V.int (k + 1), V.ref p])) p pegs := by show (H.set bd _) p = _; rw [AH.set_ne hpb]; exact hp
  have hp₂' : (H.set bd (.lst [V.int (k + 1), V.ref p])) p = some (.lst (pegs.map V.int)) := hp₂
  generalize H.set bd (.lst [V.int (k + 1), V.ref p]) = H₂ at *
  refine idx_gen 0 hb₂ l3 rfl rfl (idx_gen 1 hb₂ l3 rfl rfl ?_)
  simp only [x0, x1, x2, x3, x4, x5, x6, x7, x9, x10, x11, x12, x13, x14, x15, x16, x17, x18, x19, x20, x21, x22, x23, x27, x28, x29, x30, x31, x32, x33, x34, x35, x36, x37, x38, x39, x40, x41, x42, x43, x44, x49, x50, x51, x52, x53, forR_eq, forL_eq, forE_eq, idx_eq, x54, x55, x56, x57, x58, x59, x60, x61, x62, x63, x64, x65, x66, x67, x68, x69, x70, x71, x72, x73, x74, x75, x76, x77, x78, x79, x80, x81, x82, x83, x84, x85, x86, x87, x88, x89, x90, x91, x92, yz0, yz1, yz2, yz3, Option.some.injEq, exists_eq_left', exists_eq_left, exists_and_left, V.ref.injEq, V.int.injEq, V.fn.injEq, V.bool.injEq, Ob.lst.injEq, Ob.tup.injEq, decide_eq_true_eq, decide_eq_false_iff_not, Bool.not_eq_true', Bool.not_eq_false', Bool.not_true, Bool.not_false, List.length_map, yz4, yz5, yz6, yz7, yz8, yz9, yz10, yz11, true_and, and_true, reduceCtorEq, Bool.false_eq_true, Bool.true_eq_false, if_true, if_false, false_implies, true_implies, forall_const, and_self, false_and, and_false, or_false, false_or, implies_true, Nat.reduceAdd, Nat.reduceSub, ne_eq, not_true_eq_false, not_false_eq_true, Nat.zero_le, exists_eq', exists_eq, Int.toNat_natCast, AH.set_self, List.cons.injEq, hp₂', lp]
  refine ⟨fun hle => ?_, fun hgt => ?_⟩
  · refine idx_gen 1 hb₂ l3 rfl rfl (idx_gen 0 hb₂ l3 rfl rfl ?_)
    try simp only [x0, x1, x2, x3, x4, x5, x6, x7, x9, x10, x11, x12, x13, x14, x15, x16, x17, x18, x19, x20, x21, x22, x23, x27, x28, x29, x30, x31, x32, x33, x34, x35, x36, x37, x38, x39, x40, x41, x42, x43, x44, x49, x50, x51, x52, x53, forR_eq, forL_eq, forE_eq, idx_eq, x54, x55, x56, x57, x58, x59, x60, x61, x62, x63, x64, x65, x66, x67, x68, x69, x70, x71, x72, x73, x74, x75, x76, x77, x78, x79, x80, x81, x82, x83, x84, x85, x86, x87, x88, x89, x90, x91, x92, yz0, yz1, yz2, yz3, Option.some.injEq, exists_eq_left', exists_eq_left, exists_and_left, V.ref.injEq, V.int.injEq, V.fn.injEq, V.bool.injEq, Ob.lst.injEq, Ob.tup.injEq, decide_eq_true_eq, decide_eq_false_iff_not, Bool.not_eq_true', Bool.not_eq_false', Bool.not_true, Bool.not_false, List.length_map, yz4, yz5, yz6, yz7, yz8, yz9, yz10, yz11, true_and, and_true, reduceCtorEq, Bool.false_eq_true, Bool.true_eq_false, if_true, if_false, false_implies, true_implies, forall_const, and_self, false_and, and_false, or_false, false_or, implies_true, Nat.reduceAdd, Nat.reduceSub, ne_eq, not_true_eq_false, not_false_eq_true, Nat.zero_le, exists_eq', exists_eq, Int.toNat_natCast, AH.set_self, List.cons.injEq]
    obtain ⟨y, hy⟩ : ∃ y, pegs[k.toNat]? = some y := ⟨_, List.getElem?_eq_getElem (by exact o542 hk.1 hle)⟩
    refine idx_nat k.toNat hp₂ lp (by exact o543 hk.1) hy ?_
    simp only [x0, x1, x2, x3, x4, x5, x6, x7, x9, x10, x11, x12, x13, x14, x15, x16, x17, x18, x19, x20, x21, x22, x23, x27, x28, x29, x30, x31, x32, x33, x34, x35, x36, x37, x38, x39, x40, x41, x42, x43, x44, x49, x50, x51, x52, x53, forR_eq, forL_eq, forE_eq, idx_eq, x54, x55, x56, x57, x58, x59, x60, x61, x62, x63, x64, x65, x66, x67, x68, x69, x70, x71, x72, x73, x74, x75, x76, x77, x78, x79, x80, x81, x82, x83, x84, x85, x86, x87, x88, x89, x90, x91, x92, yz0, yz1, yz2, yz3, Option.some.injEq, exists_eq_left', exists_eq_left, exists_and_left, V.ref.injEq, V.int.injEq, V.fn.injEq, V.bool.injEq, Ob.lst.injEq, Ob.tup.injEq, decide_eq_true_eq, decide_eq_false_iff_not, Bool.not_eq_true', Bool.not_eq_false', Bool.not_true, Bool.not_false, List.length_map, yz4, yz5, yz6, yz7, yz8, yz9, yz10, yz11, true_and, and_true, reduceCtorEq, Bool.false_eq_true, Bool.true_eq_false, if_true, if_false, false_implies, true_implies, forall_const, and_self, false_and, and_false, or_false, false_or, implies_true, Nat.reduceAdd, Nat.reduceSub, ne_eq, not_true_eq_false, not_false_eq_true, Nat.zero_le, exists_eq', exists_eq, Int.toNat_natCast, AH.set_self, List.cons.injEq, hm]
    exact h _ (emod_lim hm y).1 (emod_lim hm y).2
  · refine idx_gen 0 hb₂ l3 rfl rfl ?_
    have f1 : (7 : Int).natAbs < 2 ^ 64 := by decide
    have f2 : (k + 1).natAbs < 2 ^ 64 := by exact o544 hk.1 hk.2
    simp only [x0, x1, x2, x3, x4, x5, x6, x7, x9, x10, x11, x12, x13, x14, x15, x16, x17, x18, x19, x20, x21, x22, x23, x27, x28, x29, x30, x31, x32, x33, x34, x35, x36, x37, x38, x39, x40, x41, x42, x43, x44, x49, x50, x51, x52, x53, forR_eq, forL_eq, forE_eq, idx_eq, x54, x55, x56, x57, x58, x59, x60, x61, x62, x63, x64, x65, x66, x67, x68, x69, x70, x71, x72, x73, x74, x75, x76, x77, x78, x79, x80, x81, x82, x83, x84, x85, x86, x87, x88, x89, x90, x91, x92, yz0, yz1, yz2, yz3, Option.some.injEq, exists_eq_left', exists_eq_left, exists_and_left, V.ref.injEq, V.int.injEq, V.fn.injEq, V.bool.injEq, Ob.lst.injEq, Ob.tup.injEq, decide_eq_true_eq, decide_eq_false_iff_not, Bool.not_eq_true', Bool.not_eq_false', Bool.not_true, Bool.not_false, List.length_map, yz4, yz5, yz6, yz7, yz8, yz9, yz10, yz11, true_and, and_true, reduceCtorEq, Bool.false_eq_true, Bool.true_eq_false, if_true, if_false, false_implies, true_implies, forall_const, and_self, false_and, and_false, or_false, false_or, implies_true, Nat.reduceAdd, Nat.reduceSub, ne_eq, not_true_eq_false, not_false_eq_true, Nat.zero_le, exists_eq', exists_eq, Int.toNat_natCast, AH.set_self, List.cons.injEq, f1, f2]
    refine idx_gen 0 hb₂ l3 rfl rfl ?_
    have f3 : (0 : Int) < 4 := by decide
    have f4 : (4 : Int) < 2 ^ 64 := by decide
    simp only [x0, x1, x2, x3, x4, x5, x6, x7, x9, x10, x11, x12, x13, x14, x15, x16, x17, x18, x19, x20, x21, x22, x23, x27, x28, x29, x30, x31, x32, x33, x34, x35, x36, x37, x38, x39, x40, x41, x42, x43, x44, x49, x50, x51, x52, x53, forR_eq, forL_eq, forE_eq, idx_eq, x54, x55, x56, x57, x58, x59, x60, x61, x62, x63, x64, x65, x66, x67, x68, x69, x70, x71, x72, x73, x74, x75, x76, x77, x78, x79, x80, x81, x82, x83, x84, x85, x86, x87, x88, x89, x90, x91, x92, yz0, yz1, yz2, yz3, Option.some.injEq, exists_eq_left', exists_eq_left, exists_and_left, V.ref.injEq, V.int.injEq, V.fn.injEq, V.bool.injEq, Ob.lst.injEq, Ob.tup.injEq, decide_eq_true_eq, decide_eq_false_iff_not, Bool.not_eq_true', Bool.not_eq_false', Bool.not_true, Bool.not_false, List.length_map, yz4, yz5, yz6, yz7, yz8, yz9, yz10, yz11, true_and, and_true, reduceCtorEq, Bool.false_eq_true, Bool.true_eq_false, if_true, if_false, false_implies, true_implies, forall_const, and_self, false_and, and_false, or_false, false_or, implies_true, Nat.reduceAdd, Nat.reduceSub, ne_eq, not_true_eq_false, not_false_eq_true, Nat.zero_le, exists_eq', exists_eq, Int.toNat_natCast, AH.set_self, List.cons.injEq, hm, f3, f4]
    exact h _ (emod_lim hm _).1 (emod_lim hm _).2
theorem law_limbs_ok {n w : Nat} (hn : 1 ≤ n) (hw : WOk w B) {H : AH} {v : Int} (hv : 0 ≤ v) (hv' : v < 2 ^ 64) {Q : PQ} (h : Ret H (limbs B v) Q) : callS theDefs n 29 [.int v, .int w] H Q := by
  refine call_of hn rfl rfl ?_
  have l0 : 0 ≤ lim := by exact o180
  have b0 : 0 < B := by have := hw.le; exact o210 this.1
  have b64 : B < 2 ^ 64 := by have := hw.le; exact o279 this.2
  have two64 : (2 : Int).natAbs < 2 ^ 64 := by decide
  simp only [x0, x1, x2, x3, x4, x5, x6, x7, x9, x10, x11, x12, x13, x14, x15, x16, x17, x18, x19, x20, x21, x22, x23, x27, x28, x29, x30, x31, x32, x33, x34, x35, x36, x37, x38, x39, x40, x41, x42, x43, x44, x49, x50, x51, x52, x53, forR_eq, forL_eq, forE_eq, idx_eq, x54, x55, x56, x57, x58, x59, x60, x61, x62, x63, x64, x65, x66, x67, x68, x69, x70, x71, x72, x73, x74, x75, x76, x77, x78, x79, x80, x81, x82, x83, x84, x85, x86, x87, x88, x89, x90, x91, x92, yz0, yz1, yz2, yz3, Option.some.injEq, exists_eq_left', exists_eq_left, exists_and_left, V.ref.injEq, V.int.injEq, V.fn.injEq, V.bool.injEq, Ob.lst.injEq, Ob.tup.injEq, decide_eq_true_eq, decide_eq_false_iff_not, Bool.not_eq_true', Bool.not_eq_false', Bool.not_true, Bool.not_false, List.length_map, yz4, yz5, yz6, yz7, yz8, yz9, yz10, yz11, true_and, and_true, reduceCtorEq, Bool.false_eq_true, Bool.true_eq_false, if_true, if_false, false_implies, true_implies, forall_const, and_self, false_and, and_false, or_false, false_or, implies_true, Nat.reduceAdd, Nat.reduceSub, ne_eq, not_true_eq_false, not_false_eq_true, Nat.zero_le, exists_eq', exists_eq, Int.toNat_natCast, AH.set_self, List.cons.injEq, f_law_limbs]
  intro c hc
  have hl := len_lim hw.two hv hv'
  obtain ⟨I, hI⟩ : ∃ I : Nat → Loc → AH → Prop, I = fun k l H' => ∃ m fs, l = [some (.int m), some (.int w), some (.ref c)] ∧ Sub H H' ∧ IL H' c fs ∧ 0 ≤ m ∧ m.toNat = k ∧ fs ++ limbs B m = limbs B v := ⟨_, rfl⟩
  refine whl_in I v.toNat (by rw [hI]; exact ⟨v, [], rfl, .new hc, il_set (xs := []), hv, rfl, rfl⟩) fun k l H' hk => ?_
  rw [hI] at hk
  obtain ⟨m, fs, rfl, hs, hf, hm, rfl, he⟩ := hk
  have hf' : H' c = some (.lst (fs.map V.int)) := hf
  have hfl : fs.length ≤ lim := le_lim (by have := congrArg List.length he; rw [List.length_append] at this; exact o150 hl this)
  simp only [x0, x1, x2, x3, x4, x5, x6, x7, x9, x10, x11, x12, x13, x14, x15, x16, x17, x18, x19, x20, x21, x22, x23, x27, x28, x29, x30, x31, x32, x33, x34, x35, x36, x37, x38, x39, x40, x41, x42, x43, x44, x49, x50, x51, x52, x53, forR_eq, forL_eq, forE_eq, idx_eq, x54, x55, x56, x57, x58, x59, x60, x61, x62, x63, x64, x65, x66, x67, x68, x69, x70, x71, x72, x73, x74, x75, x76, x77, x78, x79, x80, x81, x82, x83, x84, x85, x86, x87, x88, x89, x90, x91, x92, yz0, yz1, yz2, yz3, Option.some.injEq, exists_eq_left', exists_eq_left, exists_and_left, V.ref.injEq, V.int.injEq, V.fn.injEq, V.bool.injEq, Ob.lst.injEq, Ob.tup.injEq, decide_eq_true_eq, decide_eq_false_iff_not, Bool.not_eq_true', Bool.not_eq_false', Bool.not_true, Bool.not_false, List.length_map, yz4, yz5, yz6, yz7, yz8, yz9, yz10, yz11, true_and, and_true, reduceCtorEq, Bool.false_eq_true, Bool.true_eq_false, if_true, if_false, false_implies, true_implies, forall_const, and_self, false_and, and_false, or_false, false_or, implies_true, Nat.reduceAdd, Nat.reduceSub, ne_eq, not_true_eq_false, not_false_eq_true, Nat.zero_le, exists_eq', exists_eq, Int.toNat_natCast, AH.set_self, List.cons.injEq, hf', hfl, hw.pow, hw.nn, hw.k, b0, b64, two64]
  refine ⟨fun hm0 => ?_, fun hm0 => ?_⟩
  · have hd := ediv_lt_self hm0 hw.two
    refine ⟨(m / B).toNat, by exact o77 hm0 hd.2, ?_⟩
    rw [hI]
    refine ⟨m / B, fs ++ [m % B], rfl, hs.set hc, by simpa using il_set (H := H') (c := c) (xs := fs ++ [m % B]), hd.1, rfl, ?_⟩
    rw [List.append_assoc, ← he, limbs_pos hm0 hw.two]; rfl
  · have : m = 0 := by exact o151 hm hm0
    subst this
    rw [limbs_zero, List.append_nil] at he
    exact h c H' hc hs (he ▸ hf)
theorem compS_in {el : V → AH → PQ → Prop} {keep : AH → Prop} {vals : List V} {H : AH} {Q : List V → AH → Prop} (I : Nat → List V → AH → Prop) (h0 : I 0 [] H) (hk : ∀ k acc H, I k acc H → keep H)
    (step : ∀ k v acc H K, vals[k]? = some v → I k acc H → (∀ y H', I (k + 1) (acc ++ [y]) H' → K y H') → el v H K) (fin : ∀ acc H, I vals.length acc H → Q acc H) : compS el keep vals [] H Q := by
  have main : ∀ (r : List V) (k : Nat) (acc : List V) (H : AH), vals.drop k = r → k ≤ vals.length → I k acc H → compS el keep r acc H Q := by
    intro r
    induction r with
    | nil =>
      intro k acc H hd hkl hI
      have hle : vals.length ≤ k := by
        rcases Nat.lt_or_ge k vals.length with z | z
        · rw [List.drop_eq_getElem_cons z] at hd; cases hd
        · exact z
      have : k = vals.length := by exact o545 hkl hle
      subst this
      exact fin acc H hI
    | cons v r ih =>
      intro k acc H hd hkl hI
      have hlt : k < vals.length := by
        rcases Nat.lt_or_ge k vals.length with z | z
        · exact z
        · rw [List.drop_eq_nil_of_le z] at hd; cases hd
      rw [List.drop_eq_getElem_cons hlt] at hd
      have h1 := (List.cons.inj hd).1
      have h2 := (List.cons.inj hd).2
      rw [compS]
      exact step k v acc H _ (by rw [List.getElem?_eq_getElem hlt, h1]) hI fun y H' hI' => ⟨hk _ _ _ hI', ih (k + 1) _ H' h2 (by exact o198 hlt) hI'⟩
  exact main vals 0 [] H rfl (Nat.zero_le _) h0
theorem cmpL_in {src elt : E} {l : Loc} {H : AH} {Q : PQ} (h : evalS Φ src l H fun x H₁ => ∃ r xs, x = .ref r ∧ H₁ r = some (.lst xs) ∧ xs.length ≤ lim ∧
      compS (fun v H' Q' => evalS Φ elt (l ++ [some v]) H' Q') (fun H' => H' r = some (.lst xs)) xs [] H₁ fun ys H₂ => ∀ c, H₂ c = none → Q (.ref c) (H₂.set c (.lst ys))) : evalS Φ (.cmpL src elt) l H Q := h
theorem cmpE_in {src elt : E} {l : Loc} {H : AH} {Q : PQ} (h : evalS Φ src l H fun x H₁ => ∃ r xs, x = .ref r ∧ H₁ r = some (.lst xs) ∧ xs.length ≤ lim ∧
      compS (fun p H' Q' => ∃ i v, p = .int i ∧ xs[i.toNat]? = some v ∧ evalS Φ elt (l ++ [some (.int i), some v]) H' Q') (fun H' => H' r = some (.lst xs)) ((List.range xs.length).map fun i : Nat => .int (i : Int)) [] H₁ fun ys H₂ => ∀ c, H₂ c = none → Q (.ref c) (H₂.set c (.lst ys))) : evalS Φ (.cmpE src elt) l H Q := h
theorem cmpR_in {r : R} {elt : E} {l : Loc} {H : AH} {Q : PQ} (h : rangeS Φ r l H fun lo hi st H₁ => rangeOk lo hi st ∧
      compS (fun v H' Q' => evalS Φ elt (l ++ [some v]) H' Q') (fun _ => True) (rangeVs lo hi st) [] H₁ fun ys H₂ => ∀ c, H₂ c = none → Q (.ref c) (H₂.set c (.lst ys))) : evalS Φ (.cmpR r elt) l H Q := h
theorem placed_ok {n : Nat} (hn : 1 ≤ n) {H : AH} {a : Nat} {b : Int} {ds : List Int} {Q : PQ} (ha : IL H a ds) (hd : ∀ d ∈ ds, 0 ≤ d ∧ d < 2 ^ 60) (hb : 1 ≤ b) (hl : b ^ ds.length < 2 ^ 60) (hll : ds.length ≤ 1000) (h : ∀ H', Sub H H' → Q (.int (hor b ds)) H') :
    callS theDefs n 30 [.ref a, .int b] H Q := by
  refine call_of hn rfl rfl ?_
  have la' := lim_small hll
  have ha' : H a = some (.lst (ds.map V.int)) := ha
  simp only [x0, x1, x2, x3, x4, x5, x6, x7, x9, x10, x11, x12, x13, x14, x15, x16, x17, x18, x19, x20, x21, x22, x23, x27, x28, x29, x30, x31, x32, x33, x34, x35, x36, x37, x38, x39, x40, x41, x42, x43, x44, x49, x50, x51, x52, x53, forR_eq, forL_eq, forE_eq, idx_eq, x54, x55, x56, x57, x58, x59, x60, x61, x62, x63, x64, x65, x66, x67, x68, x69, x70, x71, x72, x73, x74, x75, x76, x77, x78, x79, x80, x81, x82, x83, x84, x85, x86, x87, x88, x89, x90, x91, x92, yz0, yz1, yz2, yz3, Option.some.injEq, exists_eq_left', exists_eq_left, exists_and_left, V.ref.injEq, V.int.injEq, V.fn.injEq, V.bool.injEq, Ob.lst.injEq, Ob.tup.injEq, decide_eq_true_eq, decide_eq_false_iff_not, Bool.not_eq_true', Bool.not_eq_false', Bool.not_true, Bool.not_false, List.length_map, yz4, yz5, yz6, yz7, yz8, yz9, yz10, yz11, true_and, and_true, reduceCtorEq, Bool.false_eq_true, Bool.true_eq_false, if_true, if_false, false_implies, true_implies, forall_const, and_self, false_and, and_false, or_false, false_or, implies_true, Nat.reduceAdd, Nat.reduceSub, ne_eq, not_true_eq_false, not_false_eq_true, Nat.zero_le, exists_eq', exists_eq, Int.toNat_natCast, AH.set_self, List.cons.injEq, f_law_placed]
  refine cmpE_in ?_
  simp only [x0, x1, x2, x3, x4, x5, x6, x7, x9, x10, x11, x12, x13, x14, x15, x16, x17, x18, x19, x20, x21, x22, x23, x27, x28, x29, x30, x31, x32, x33, x34, x35, x36, x37, x38, x39, x40, x41, x42, x43, x44, x49, x50, x51, x52, x53, forR_eq, forL_eq, forE_eq, idx_eq, x54, x55, x56, x57, x58, x59, x60, x61, x62, x63, x64, x65, x66, x67, x68, x69, x70, x71, x72, x73, x74, x75, x76, x77, x78, x79, x80, x81, x82, x83, x84, x85, x86, x87, x88, x89, x90, x91, x92, yz0, yz1, yz2, yz3, Option.some.injEq, exists_eq_left', exists_eq_left, exists_and_left, V.ref.injEq, V.int.injEq, V.fn.injEq, V.bool.injEq, Ob.lst.injEq, Ob.tup.injEq, decide_eq_true_eq, decide_eq_false_iff_not, Bool.not_eq_true', Bool.not_eq_false', Bool.not_true, Bool.not_false, List.length_map, yz4, yz5, yz6, yz7, yz8, yz9, yz10, yz11, true_and, and_true, reduceCtorEq, Bool.false_eq_true, Bool.true_eq_false, if_true, if_false, false_implies, true_implies, forall_const, and_self, false_and, and_false, or_false, false_or, implies_true, Nat.reduceAdd, Nat.reduceSub, ne_eq, not_true_eq_false, not_false_eq_true, Nat.zero_le, exists_eq', exists_eq, Int.toNat_natCast, AH.set_self, List.cons.injEq, ha', la']
  intro c hc
  have s₁ := Sub.new (ob := .lst (ds.map V.int).reverse) hc
  have hrc : (H.set c (.lst (ds.map V.int).reverse)) c = some (.lst (ds.reverse.map V.int)) := by rw [AH.set_self, List.map_reverse]
  have hh : (ds.map V.int).reverse = ds.reverse.map V.int := by rw [List.map_reverse]
  rw [hh] at s₁ hrc ⊢
  have la2 : ds.reverse.length ≤ lim := by rw [List.length_reverse]; exact la'
  generalize H.set c (.lst (ds.reverse.map V.int)) = H₁ at *
  simp only [x0, x1, x2, x3, x4, x5, x6, x7, x9, x10, x11, x12, x13, x14, x15, x16, x17, x18, x19, x20, x21, x22, x23, x27, x28, x29, x30, x31, x32, x33, x34, x35, x36, x37, x38, x39, x40, x41, x42, x43, x44, x49, x50, x51, x52, x53, forR_eq, forL_eq, forE_eq, idx_eq, x54, x55, x56, x57, x58, x59, x60, x61, x62, x63, x64, x65, x66, x67, x68, x69, x70, x71, x72, x73, x74, x75, x76, x77, x78, x79, x80, x81, x82, x83, x84, x85, x86, x87, x88, x89, x90, x91, x92, yz0, yz1, yz2, yz3, Option.some.injEq, exists_eq_left', exists_eq_left, exists_and_left, V.ref.injEq, V.int.injEq, V.fn.injEq, V.bool.injEq, Ob.lst.injEq, Ob.tup.injEq, decide_eq_true_eq, decide_eq_false_iff_not, Bool.not_eq_true', Bool.not_eq_false', Bool.not_true, Bool.not_false, List.length_map, yz4, yz5, yz6, yz7, yz8, yz9, yz10, yz11, true_and, and_true, reduceCtorEq, Bool.false_eq_true, Bool.true_eq_false, if_true, if_false, false_implies, true_implies, forall_const, and_self, false_and, and_false, or_false, false_or, implies_true, Nat.reduceAdd, Nat.reduceSub, ne_eq, not_true_eq_false, not_false_eq_true, Nat.zero_le, exists_eq', exists_eq, Int.toNat_natCast, AH.set_self, List.cons.injEq, hrc, la2]
  obtain ⟨I, hI⟩ : ∃ I : Nat → List V → AH → Prop, I = fun k acc H' => ∃ ts : List Int, acc = ts.map V.int ∧ ts.sum = val b (ds.reverse.take k) ∧ H₁ = H' := ⟨_, rfl⟩
  refine compS_in I (by rw [hI]; exact ⟨[], rfl, by simp [val], rfl⟩) (fun k acc H' hj => ?_) (fun k v acc H' K hv hj hK => ?_) fun acc H' hj => ?_
  · rw [hI] at hj
    obtain ⟨ts, rfl, hsum, rfl⟩ := hj
    exact hrc
  · rw [hI] at hj
    obtain ⟨ts, rfl, hsum, rfl⟩ := hj
    rw [List.getElem?_map] at hv
    cases q : (List.range ds.reverse.length)[k]? with
    | none => rw [q] at hv; cases hv
    | some j =>
      rw [q] at hv
      obtain ⟨hk, rfl⟩ := List.getElem?_eq_some_iff.mp q
      simp only [List.length_range, List.length_reverse] at hk
      simp only [Option.map_some, Option.some.injEq, List.getElem_range] at hv
      subst hv
      obtain ⟨d, hx⟩ : ∃ d, ds.reverse[k]? = some d := ⟨_, List.getElem?_eq_getElem (by rw [List.length_reverse]; exact hk)⟩
      have hdx := hd _ (List.mem_reverse.mp (List.mem_of_getElem? hx))
      refine ⟨(k : Int), rfl, V.int d, by rw [Int.toNat_natCast, List.getElem?_map, hx]; rfl, ?_⟩
      have z0 : (0 : Int) ≤ (k : Int) := by exact o143
      have z1 : (k : Int) ≤ 1000 := by exact o546 hll hk
      have p0 : (0 : Int) < b ^ k := Int.pow_pos (by exact o146 hb)
      have p1 : b ^ k ≤ b ^ ds.length := pow_le hb (by exact o175 hk)
      have b1 : b ≤ b ^ ds.length := by
        have := pow_le hb (show 1 ≤ ds.length by exact o547 hk)
        simpa [Int.pow_succ] using this
      have f1 : b.natAbs < 2 ^ 64 := by exact o548 hb hl b1
      have f2 : (b ^ k).natAbs < 2 ^ 64 := by exact o549 hl p0 p1
      have f3 : d.natAbs < 2 ^ 64 := by exact o550 hdx.1 hdx.2
      simp only [x0, x1, x2, x3, x4, x5, x6, x7, x9, x10, x11, x12, x13, x14, x15, x16, x17, x18, x19, x20, x21, x22, x23, x27, x28, x29, x30, x31, x32, x33, x34, x35, x36, x37, x38, x39, x40, x41, x42, x43, x44, x49, x50, x51, x52, x53, forR_eq, forL_eq, forE_eq, idx_eq, x54, x55, x56, x57, x58, x59, x60, x61, x62, x63, x64, x65, x66, x67, x68, x69, x70, x71, x72, x73, x74, x75, x76, x77, x78, x79, x80, x81, x82, x83, x84, x85, x86, x87, x88, x89, x90, x91, x92, yz0, yz1, yz2, yz3, Option.some.injEq, exists_eq_left', exists_eq_left, exists_and_left, V.ref.injEq, V.int.injEq, V.fn.injEq, V.bool.injEq, Ob.lst.injEq, Ob.tup.injEq, decide_eq_true_eq, decide_eq_false_iff_not, Bool.not_eq_true', Bool.not_eq_false', Bool.not_true, Bool.not_false, List.length_map, yz4, yz5, yz6, yz7, yz8, yz9, yz10, yz11, true_and, and_true, reduceCtorEq, Bool.false_eq_true, Bool.true_eq_false, if_true, if_false, false_implies, true_implies, forall_const, and_self, false_and, and_false, or_false, false_or, implies_true, Nat.reduceAdd, Nat.reduceSub, ne_eq, not_true_eq_false, not_false_eq_true, Nat.zero_le, exists_eq', exists_eq, Int.toNat_natCast, AH.set_self, List.cons.injEq, z0, z1, f1, f2, f3]
      refine hK _ _ ?_
      rw [hI]
      refine ⟨ts ++ [d * b ^ k], by simp, ?_, rfl⟩
      rw [val_next hx, List.sum_append, hsum]
      simp [Int.mul_comm]
  · rw [hI] at hj
    obtain ⟨ts, rfl, hsum, rfl⟩ := hj
    rw [List.length_map, List.length_range, List.take_of_length_le (Nat.le_refl _)] at hsum
    intro c₂ hc₂
    refine ⟨ts, il_set, ?_⟩
    rw [hsum]
    exact h _ (s₁.set (s₁.none hc₂))
noncomputable def bare (ds : List Int) : List Int := (norm ds.reverse).reverse
theorem bare_limbs {b : Int} (hb : 2 ≤ b) {ds : List Int} (h : Lim b ds) : bare ds = (limbs b (hor b ds)).reverse := by
  unfold bare hor; rw [norm_limbs hb h.rev]
theorem bare_ok {n : Nat} (hn : 1 ≤ n) {H : AH} {a : Nat} {ds : List Int} {Q : PQ} (ha : IL H a ds) (hll : ds.length ≤ 1000) (h : Ret H (bare ds) Q) : callS theDefs n 31 [.ref a] H Q := by
  refine call_of hn rfl rfl ?_
  have la' := lim_small hll
  have ha' : H a = some (.lst (ds.map V.int)) := ha
  simp only [x0, x1, x2, x3, x4, x5, x6, x7, x9, x10, x11, x12, x13, x14, x15, x16, x17, x18, x19, x20, x21, x22, x23, x27, x28, x29, x30, x31, x32, x33, x34, x35, x36, x37, x38, x39, x40, x41, x42, x43, x44, x49, x50, x51, x52, x53, forR_eq, forL_eq, forE_eq, idx_eq, x54, x55, x56, x57, x58, x59, x60, x61, x62, x63, x64, x65, x66, x67, x68, x69, x70, x71, x72, x73, x74, x75, x76, x77, x78, x79, x80, x81, x82, x83, x84, x85, x86, x87, x88, x89, x90, x91, x92, yz0, yz1, yz2, yz3, Option.some.injEq, exists_eq_left', exists_eq_left, exists_and_left, V.ref.injEq, V.int.injEq, V.fn.injEq, V.bool.injEq, Ob.lst.injEq, Ob.tup.injEq, decide_eq_true_eq, decide_eq_false_iff_not, Bool.not_eq_true', Bool.not_eq_false', Bool.not_true, Bool.not_false, List.length_map, yz4, yz5, yz6, yz7, yz8, yz9, yz10, yz11, true_and, and_true, reduceCtorEq, Bool.false_eq_true, Bool.true_eq_false, if_true, if_false, false_implies, true_implies, forall_const, and_self, false_and, and_false, or_false, false_or, implies_true, Nat.reduceAdd, Nat.reduceSub, ne_eq, not_true_eq_false, not_false_eq_true, Nat.zero_le, exists_eq', exists_eq, Int.toNat_natCast, AH.set_self, List.cons.injEq, f_law_bare]
  obtain ⟨I, hI⟩ : ∃ I : Nat → Loc → AH → Prop, I = fun k l H' => ∃ e : Nat, H = H' ∧ l = [some (.ref a), some (.int (e : Int))] ∧ e ≤ ds.length ∧ (∀ (i : Nat) x, i < e → ds[i]? = some x → x = 0) ∧ k = ds.length - e := ⟨_, rfl⟩
  refine whl_in I ds.length (by rw [hI]; exact ⟨0, rfl, rfl, by exact o180, fun i x hi => by exact (o551 hi).elim, rfl⟩) fun k l H' hk => ?_
  rw [hI] at hk
  obtain ⟨e, rfl, rfl, he, hz, rfl⟩ := hk
  have fin : (e = ds.length ∨ ∃ x, ds[e]? = some x ∧ x ≠ 0) → cutS (.ref a) (some (e : Int)) none H Q := fun hor => by
    refine cut_from ha la' rfl he fun c hc => ?_
    have e1 : bare ds = ds.drop e := by
      unfold bare
      have e0 := norm_take (xs := ds.reverse) (e := ds.length - e) (by rw [List.length_reverse]; exact o552) (fun i x hi hx => by
        have hil := (List.getElem?_eq_some_iff.mp hx).1
        rw [List.length_reverse] at hil
        rw [List.getElem?_reverse hil] at hx
        exact hz _ x (by exact o553 hi hil) hx) (by
        rcases hor with rfl | ⟨x, hx, hx0⟩
        · exact .inl (by exact o554)
        · have hel := (List.getElem?_eq_some_iff.mp hx).1
          refine .inr ⟨x, ?_, hx0⟩
          rw [List.getElem?_reverse (by exact o121 hel), show ds.length - 1 - (ds.length - e - 1) = e by exact o555 hel]; exact hx)
      rw [e0, List.take_reverse, List.reverse_reverse, show ds.length - (ds.length - e) = e by exact o556 he]
    rw [← e1]
    exact h c _ hc (.new hc) il_set
  simp only [x0, x1, x2, x3, x4, x5, x6, x7, x9, x10, x11, x12, x13, x14, x15, x16, x17, x18, x19, x20, x21, x22, x23, x27, x28, x29, x30, x31, x32, x33, x34, x35, x36, x37, x38, x39, x40, x41, x42, x43, x44, x49, x50, x51, x52, x53, forR_eq, forL_eq, forE_eq, idx_eq, x54, x55, x56, x57, x58, x59, x60, x61, x62, x63, x64, x65, x66, x67, x68, x69, x70, x71, x72, x73, x74, x75, x76, x77, x78, x79, x80, x81, x82, x83, x84, x85, x86, x87, x88, x89, x90, x91, x92, yz0, yz1, yz2, yz3, Option.some.injEq, exists_eq_left', exists_eq_left, exists_and_left, V.ref.injEq, V.int.injEq, V.fn.injEq, V.bool.injEq, Ob.lst.injEq, Ob.tup.injEq, decide_eq_true_eq, decide_eq_false_iff_not, Bool.not_eq_true', Bool.not_eq_false', Bool.not_true, Bool.not_false, List.length_map, yz4, yz5, yz6, yz7, yz8, yz9, yz10, yz11, true_and, and_true, reduceCtorEq, Bool.false_eq_true, Bool.true_eq_false, if_true, if_false, false_implies, true_implies, forall_const, and_self, false_and, and_false, or_false, false_or, implies_true, Nat.reduceAdd, Nat.reduceSub, ne_eq, not_true_eq_false, not_false_eq_true, Nat.zero_le, exists_eq', exists_eq, Int.toNat_natCast, AH.set_self, List.cons.injEq, ha', la']
  refine ⟨fun h0 => fin (.inl (by exact o557 he h0)), fun h0 => ?_⟩
  have hx := List.getElem?_eq_getElem (l := ds) (i := e) (by exact o159 h0)
  refine idx_nat e ha la' rfl hx ?_
  try simp only [x0, x1, x2, x3, x4, x5, x6, x7, x9, x10, x11, x12, x13, x14, x15, x16, x17, x18, x19, x20, x21, x22, x23, x27, x28, x29, x30, x31, x32, x33, x34, x35, x36, x37, x38, x39, x40, x41, x42, x43, x44, x49, x50, x51, x52, x53, forR_eq, forL_eq, forE_eq, idx_eq, x54, x55, x56, x57, x58, x59, x60, x61, x62, x63, x64, x65, x66, x67, x68, x69, x70, x71, x72, x73, x74, x75, x76, x77, x78, x79, x80, x81, x82, x83, x84, x85, x86, x87, x88, x89, x90, x91, x92, yz0, yz1, yz2, yz3, Option.some.injEq, exists_eq_left', exists_eq_left, exists_and_left, V.ref.injEq, V.int.injEq, V.fn.injEq, V.bool.injEq, Ob.lst.injEq, Ob.tup.injEq, decide_eq_true_eq, decide_eq_false_iff_not, Bool.not_eq_true', Bool.not_eq_false', Bool.not_true, Bool.not_false, List.length_map, yz4, yz5, yz6, yz7, yz8, yz9, yz10, yz11, true_and, and_true, reduceCtorEq, Bool.false_eq_true, Bool.true_eq_false, if_true, if_false, false_implies, true_implies, forall_const, and_self, false_and, and_false, or_false, false_or, implies_true, Nat.reduceAdd, Nat.reduceSub, ne_eq, not_true_eq_false, not_false_eq_true, Nat.zero_le, exists_eq', exists_eq, Int.toNat_natCast, AH.set_self, List.cons.injEq]
  refine ⟨fun h1 => ⟨ds.length - (e + 1), by exact o558 h0, ?_⟩, fun h1 => fin (.inr ⟨_, hx, h1⟩)⟩
  rw [hI]
  refine ⟨e + 1, rfl, by rw [show ((e + 1 : Nat) : Int) = (e : Int) + 1 by exact o559], by exact o560 h0, fun i x hi hx' => ?_, rfl⟩
  by_cases hie : i = e
  · rw [hie, hx] at hx'; cases hx'; exact h1
  · exact hz i x (by exact o561 hi hie) hx'
end Mine
end
section
open PySem PySem.Calls PySem.W PyProof.Rows
set_option maxRecDepth 100000
namespace Mine
variable {B : Int} {Φ : Phi}
theorem rangeLen_step {m d : Nat} (hm : 1 ≤ m) : rangeLen 0 ((m * (d + 1) : Nat) : Int) (m : Int) = d + 1 := by
  unfold rangeLen Builtin.Range.rangeSize
  have h1 : (m : Int) > 0 := by exact o562 hm
  have hp : 0 < m * (d + 1) := Nat.mul_pos (by exact o563 hm) (by exact o564)
  have h2 : (0 : Int) < ((m * (d + 1) : Nat) : Int) := by exact o565 hp
  rw [if_pos h1, if_pos h2]
  have e : ((m * (d + 1) : Nat) : Int) - 0 - 1 = ((m : Int) - 1) + (m : Int) * (d : Int) := by push_cast; grind
  rw [e, Int.add_mul_ediv_left _ _ (by exact o566 hm), Int.ediv_eq_zero_of_lt (by exact o532 hm) (by exact o567)]
  exact o568
theorem rangeOk_step {m d : Nat} (hm : 1 ≤ m ∧ m ≤ 100) (h : m * (d + 1) ≤ 100000) : rangeOk 0 ((m * (d + 1) : Nat) : Int) (m : Int) := by
  have hd : d + 1 ≤ m * (d + 1) := Nat.le_mul_of_pos_left _ (by exact o563 hm.1)
  have hl := rangeLen_step (m := m) (d := d) hm.1
  have hs : Builtin.Range.rangeSize 0 ((m * (d + 1) : Nat) : Int) (m : Int) = ((d + 1 : Nat) : Int) := by rw [← rangeSize_nonneg (by exact o566 hm.1), hl]
  refine ⟨by exact o566 hm.1, by exact o569 hm.2, ?_, by rw [hl]; unfold lim; exact o570 h hd⟩
  unfold Builtin.Range.small Builtin.Range.rangeFitsLong
  rw [hs]
  rw [if_pos (show (m : Int) > 0 by exact o562 hm.1)]
  generalize m * (d + 1) = q at *
  simp only [Bool.and_eq_true, Bool.or_eq_true, decide_eq_true_eq, beq_iff_eq]
  exact o571 hm.2 h hd
theorem taken_ok {n : Nat} (hn : 2 ≤ n) {H : AH} {a m : Nat} {b : Int} {ds : List Int} {Q : PQ} (ha : IL H a ds) (hb : 2 ≤ b) (hd : Lim b ds) (hm : 1 ≤ m ∧ m ≤ 100) (hbm : b ^ m < 2 ^ 20) (hll : ds.length ≤ 100) (h : Ret H (limbs (b ^ m) (hor b ds)).reverse Q) :
    callS theDefs n 32 [.ref a, .int b, .int (m : Int)] H Q := by
  refine call_of (by exact o204 hn) rfl rfl ?_
  have la' := lim_small (show ds.length ≤ 1000 by exact o572 hll)
  have ha' : H a = some (.lst (ds.map V.int)) := ha
  have l1 : 0 + 1 ≤ lim := le_lim (by simp)
  have em : (ds.length : Int) % (m : Int) = ((ds.length % m : Nat) : Int) := by simp
  have hr : ds.length % m < m := Nat.mod_lt _ (by exact o563 hm.1)
  have hdm := Nat.div_add_mod ds.length m
  generalize hdv : ds.length / m = dv at hdm
  have hq : m - ds.length % m + ds.length = m * (dv + 1) := by rw [Nat.mul_add]; exact o573 hr hdm
  have m0 : (0 : Int) < (m : Int) := by exact o574 hm.1
  have hp0 : 1 ≤ m - ds.length % m := by exact o575 hr
  generalize hrr : ds.length % m = r at *
  have z0 : (0 : Int) - (r : Int) + (m : Int) = ((m - r : Nat) : Int) := by exact o576 hr
  have z1 : -(lim : Int) ≤ ((m - r : Nat) : Int) := by exact o577
  have z2 : ((m - r : Nat) : Int) ≤ (lim : Int) := by unfold lim; exact o578 hm.2
  simp only [x0, x1, x2, x3, x4, x5, x6, x7, x9, x10, x11, x12, x13, x14, x15, x16, x17, x18, x19, x20, x21, x22, x23, x27, x28, x29, x30, x31, x32, x33, x34, x35, x36, x37, x38, x39, x40, x41, x42, x43, x44, x49, x50, x51, x52, x53, forR_eq, forL_eq, forE_eq, idx_eq, x54, x55, x56, x57, x58, x59, x60, x61, x62, x63, x64, x65, x66, x67, x68, x69, x70, x71, x72, x73, x74, x75, x76, x77, x78, x79, x80, x81, x82, x83, x84, x85, x86, x87, x88, x89, x90, x91, x92, yz0, yz1, yz2, yz3, Option.some.injEq, exists_eq_left', exists_eq_left, exists_and_left, V.ref.injEq, V.int.injEq, V.fn.injEq, V.bool.injEq, Ob.lst.injEq, Ob.tup.injEq, decide_eq_true_eq, decide_eq_false_iff_not, Bool.not_eq_true', Bool.not_eq_false', Bool.not_true, Bool.not_false, List.length_map, yz4, yz5, yz6, yz7, yz8, yz9, yz10, yz11, true_and, and_true, reduceCtorEq, Bool.false_eq_true, Bool.true_eq_false, if_true, if_false, false_implies, true_implies, forall_const, and_self, false_and, and_false, or_false, false_or, implies_true, Nat.reduceAdd, Nat.reduceSub, ne_eq, not_true_eq_false, not_false_eq_true, Nat.zero_le, exists_eq', exists_eq, Int.toNat_natCast, AH.set_self, List.cons.injEq, f_law_taken, l1]
  intro c₁ hc₁
  have s₁ := Sub.new (ob := .lst [V.int 0]) hc₁
  have ha₁ : (H.set c₁ (.lst [V.int 0])) a = some (.lst (ds.map V.int)) := s₁.il ha
  simp only [x0, x1, x2, x3, x4, x5, x6, x7, x9, x10, x11, x12, x13, x14, x15, x16, x17, x18, x19, x20, x21, x22, x23, x27, x28, x29, x30, x31, x32, x33, x34, x35, x36, x37, x38, x39, x40, x41, x42, x43, x44, x49, x50, x51, x52, x53, forR_eq, forL_eq, forE_eq, idx_eq, x54, x55, x56, x57, x58, x59, x60, x61, x62, x63, x64, x65, x66, x67, x68, x69, x70, x71, x72, x73, x74, x75, x76, x77, x78, x79, x80, x81, x82, x83, x84, x85, x86, x87, x88, x89, x90, x91, x92, yz0, yz1, yz2, yz3, Option.some.injEq, exists_eq_left', exists_eq_left, exists_and_left, V.ref.injEq, V.int.injEq, V.fn.injEq, V.bool.injEq, Ob.lst.injEq, Ob.tup.injEq, decide_eq_true_eq, decide_eq_false_iff_not, Bool.not_eq_true', Bool.not_eq_false', Bool.not_true, Bool.not_false, List.length_map, yz4, yz5, yz6, yz7, yz8, yz9, yz10, yz11, true_and, and_true, reduceCtorEq, Bool.false_eq_true, Bool.true_eq_false, if_true, if_false, false_implies, true_implies, forall_const, and_self, false_and, and_false, or_false, false_or, implies_true, Nat.reduceAdd, Nat.reduceSub, ne_eq, not_true_eq_false, not_false_eq_true, Nat.zero_le, exists_eq', exists_eq, Int.toNat_natCast, AH.set_self, List.cons.injEq, ha₁, la', em, m0, z0, z1, z2]
  intro c₂ hc₂
  have s₂ := s₁.set (c := c₂) (ob := .lst (List.replicate (m - r) (V.int 0))) (s₁.none hc₂)
  have ha₂ : ((H.set c₁ (.lst [V.int 0])).set c₂ (.lst (List.replicate (m - r) (V.int 0)))) a = some (.lst (ds.map V.int)) := s₂.il ha
  have l2 : m - r + ds.length ≤ lim := lim_small (by exact o579 hm.2 hll)
  simp only [x0, x1, x2, x3, x4, x5, x6, x7, x9, x10, x11, x12, x13, x14, x15, x16, x17, x18, x19, x20, x21, x22, x23, x27, x28, x29, x30, x31, x32, x33, x34, x35, x36, x37, x38, x39, x40, x41, x42, x43, x44, x49, x50, x51, x52, x53, forR_eq, forL_eq, forE_eq, idx_eq, x54, x55, x56, x57, x58, x59, x60, x61, x62, x63, x64, x65, x66, x67, x68, x69, x70, x71, x72, x73, x74, x75, x76, x77, x78, x79, x80, x81, x82, x83, x84, x85, x86, x87, x88, x89, x90, x91, x92, yz0, yz1, yz2, yz3, Option.some.injEq, exists_eq_left', exists_eq_left, exists_and_left, V.ref.injEq, V.int.injEq, V.fn.injEq, V.bool.injEq, Ob.lst.injEq, Ob.tup.injEq, decide_eq_true_eq, decide_eq_false_iff_not, Bool.not_eq_true', Bool.not_eq_false', Bool.not_true, Bool.not_false, List.length_map, yz4, yz5, yz6, yz7, yz8, yz9, yz10, yz11, true_and, and_true, reduceCtorEq, Bool.false_eq_true, Bool.true_eq_false, if_true, if_false, false_implies, true_implies, forall_const, and_self, false_and, and_false, or_false, false_or, implies_true, Nat.reduceAdd, Nat.reduceSub, ne_eq, not_true_eq_false, not_false_eq_true, Nat.zero_le, exists_eq', exists_eq, Int.toNat_natCast, AH.set_self, List.cons.injEq, ha₂, List.length_replicate, l2]
  intro c₃ hc₃
  have s₃ := s₂.set (c := c₃) (ob := .lst (List.replicate (m - r) (V.int 0) ++ ds.map V.int)) (s₂.none hc₃)
  have hf₃ : IL (((H.set c₁ (.lst [V.int 0])).set c₂ (.lst (List.replicate (m - r) (V.int 0)))).set c₃ (.lst (List.replicate (m - r) (V.int 0) ++ ds.map V.int))) c₃ (List.replicate (m - r) 0 ++ ds) := by unfold IL; rw [AH.set_self]; simp
  generalize ((H.set c₁ (.lst [V.int 0])).set c₂ (.lst (List.replicate (m - r) (V.int 0)))).set c₃ (.lst (List.replicate (m - r) (V.int 0) ++ ds.map V.int)) = H₃ at *
  have hfl : (List.replicate (m - r) 0 ++ ds).length = m * (dv + 1) := by simp; exact o580 hq
  have hfull : Lim b (List.replicate (m - r) 0 ++ ds) := (Lim.zeros (by exact o74 hb) _).append hd
  have hhor : hor b (List.replicate (m - r) 0 ++ ds) = hor b ds := by
    rw [hor_append]
    have : hor b (List.replicate (m - r) 0) = 0 := by unfold hor; rw [List.reverse_replicate, val_replicate]
    rw [this]; exact o581
  generalize List.replicate (m - r) 0 ++ ds = full at *
  have lf : full.length ≤ lim := lim_small (by exact o582 hm.2 hll hq hfl)
  have hf₃' : H₃ c₃ = some (.lst (full.map V.int)) := hf₃
  refine cmpR_in ?_
  have hflI : (full.length : Int) = ((m * (dv + 1) : Nat) : Int) := by exact o496 hfl
  simp only [x0, x1, x2, x3, x4, x5, x6, x7, x9, x10, x11, x12, x13, x14, x15, x16, x17, x18, x19, x20, x21, x22, x23, x27, x28, x29, x30, x31, x32, x33, x34, x35, x36, x37, x38, x39, x40, x41, x42, x43, x44, x49, x50, x51, x52, x53, forR_eq, forL_eq, forE_eq, idx_eq, x54, x55, x56, x57, x58, x59, x60, x61, x62, x63, x64, x65, x66, x67, x68, x69, x70, x71, x72, x73, x74, x75, x76, x77, x78, x79, x80, x81, x82, x83, x84, x85, x86, x87, x88, x89, x90, x91, x92, yz0, yz1, yz2, yz3, Option.some.injEq, exists_eq_left', exists_eq_left, exists_and_left, V.ref.injEq, V.int.injEq, V.fn.injEq, V.bool.injEq, Ob.lst.injEq, Ob.tup.injEq, decide_eq_true_eq, decide_eq_false_iff_not, Bool.not_eq_true', Bool.not_eq_false', Bool.not_true, Bool.not_false, List.length_map, yz4, yz5, yz6, yz7, yz8, yz9, yz10, yz11, true_and, and_true, reduceCtorEq, Bool.false_eq_true, Bool.true_eq_false, if_true, if_false, false_implies, true_implies, forall_const, and_self, false_and, and_false, or_false, false_or, implies_true, Nat.reduceAdd, Nat.reduceSub, ne_eq, not_true_eq_false, not_false_eq_true, Nat.zero_le, exists_eq', exists_eq, Int.toNat_natCast, AH.set_self, List.cons.injEq, hf₃', lf, hflI]
  refine ⟨rangeOk_step hm (by exact o583 hm.2 hll hq), ?_⟩
  have hbp : (0 : Int) < b ^ m := Int.pow_pos (by exact o74 hb)
  have hbm2 : 2 ≤ b ^ m := by have := pow_le (B := b) (by exact o152 hb) hm.1
                              have e1 : b ^ 1 = b := by simp [Int.pow_succ]
                              exact o584 hb this e1
  obtain ⟨I, hI⟩ : ∃ I : Nat → List V → AH → Prop, I = fun k acc H' => ∃ gs : List Int, acc = gs.map V.int ∧ gs.length = k ∧ Lim (b ^ m) gs ∧ hor (b ^ m) gs = hor b (full.take (m * k)) ∧ Sub H₃ H' := ⟨_, rfl⟩
  have hrl : rangeLen 0 ((m * (dv + 1) : Nat) : Int) (m : Int) = dv + 1 := rangeLen_step hm.1
  refine compS_in I (by rw [hI]; exact ⟨[], rfl, rfl, .nil, by simp [hor, val], .refl⟩) (fun k acc H' hj => trivial) (fun k v acc H' K hv hj hK => ?_) fun acc H' hj => ?_
  · rw [hI] at hj
    obtain ⟨gs, rfl, hgl, hgL, hgv, hs⟩ := hj
    unfold rangeVs at hv
    rw [hrl, List.getElem?_map] at hv
    cases q : (List.range (dv + 1))[k]? with
    | none => rw [q] at hv; cases hv
    | some j =>
      rw [q] at hv
      obtain ⟨hk, rfl⟩ := List.getElem?_eq_some_iff.mp q
      simp only [List.length_range] at hk
      simp only [Option.map_some, Option.some.injEq, List.getElem_range] at hv
      subst hv
      have hkm : m * k + m ≤ m * (dv + 1) := by
        have := Nat.mul_le_mul_left m (show k + 1 ≤ dv + 1 by exact o585 hk)
        rw [Nat.mul_add m k 1] at this; exact o586 this
      have ei : (0 : Int) + (k : Int) * (m : Int) = ((m * k : Nat) : Int) := by push_cast; grind
      try simp only [x0, x1, x2, x3, x4, x5, x6, x7, x9, x10, x11, x12, x13, x14, x15, x16, x17, x18, x19, x20, x21, x22, x23, x27, x28, x29, x30, x31, x32, x33, x34, x35, x36, x37, x38, x39, x40, x41, x42, x43, x44, x49, x50, x51, x52, x53, forR_eq, forL_eq, forE_eq, idx_eq, x54, x55, x56, x57, x58, x59, x60, x61, x62, x63, x64, x65, x66, x67, x68, x69, x70, x71, x72, x73, x74, x75, x76, x77, x78, x79, x80, x81, x82, x83, x84, x85, x86, x87, x88, x89, x90, x91, x92, yz0, yz1, yz2, yz3, Option.some.injEq, exists_eq_left', exists_eq_left, exists_and_left, V.ref.injEq, V.int.injEq, V.fn.injEq, V.bool.injEq, Ob.lst.injEq, Ob.tup.injEq, decide_eq_true_eq, decide_eq_false_iff_not, Bool.not_eq_true', Bool.not_eq_false', Bool.not_true, Bool.not_false, List.length_map, yz4, yz5, yz6, yz7, yz8, yz9, yz10, yz11, true_and, and_true, reduceCtorEq, Bool.false_eq_true, Bool.true_eq_false, if_true, if_false, false_implies, true_implies, forall_const, and_self, false_and, and_false, or_false, false_or, implies_true, Nat.reduceAdd, Nat.reduceSub, ne_eq, not_true_eq_false, not_false_eq_true, Nat.zero_le, exists_eq', exists_eq, Int.toNat_natCast, AH.set_self, List.cons.injEq]
      refine cut_mid (i := m * k) (j := m * k + m) (hs.il hf₃) lf ei (by rw [ei]; exact o245) (by exact o587 hfl hkm) (by exact o588 hfl hkm) fun c₄ hc₄ => ?_
      rw [show m * k + m - m * k = m by exact o589]
      have s₄ := Sub.new (ob := .lst (((full.drop (m * k)).take m).map V.int)) hc₄
      have hf₄ : IL (H'.set c₄ (.lst (((full.drop (m * k)).take m).map V.int))) c₄ ((full.drop (m * k)).take m) := il_set
      have hcl : ((full.drop (m * k)).take m).length = m := by rw [List.length_take, List.length_drop]; exact o590 hfl hkm
      have hcL : Lim b ((full.drop (m * k)).take m) := (hfull.drop _).take _
      have hb60 : b < 2 ^ 60 := by
        have := pow_le (B := b) (by exact o152 hb) hm.1
        have e1 : b ^ 1 = b := by simp [Int.pow_succ]
        exact o591 hbm this e1
      refine placed_ok (by exact o218 hn) hf₄ (fun d hd => by have := hcL d hd; exact o592 hb60 this.1 this.2) (by exact o152 hb) (by rw [hcl]; exact o530 hbm) (by exact o593 hm.2 hcl) fun H₅ s₅ => hK _ _ ?_
      rw [hI]
      have hlt := hor_lt (by exact o74 hb) hcL
      rw [hcl] at hlt
      refine ⟨gs ++ [hor b ((full.drop (m * k)).take m)], by simp, by simp [hgl], hgL.append (.one hlt), ?_, (hs.trans s₄).trans s₅⟩
      have e2 : full.take (m * (k + 1)) = full.take (m * k) ++ (full.drop (m * k)).take m := by rw [Nat.mul_add, Nat.mul_one, List.take_add]
      rw [hor_snoc, hgv, e2, hor_append, hcl]
  · rw [hI] at hj
    obtain ⟨gs, rfl, hgl, hgL, hgv, hs⟩ := hj
    have hvl : (rangeVs 0 ((m * (dv + 1) : Nat) : Int) (m : Int)).length = dv + 1 := by unfold rangeVs; rw [List.length_map, List.length_range, hrl]
    rw [hvl] at hgl hgv
    rw [List.take_of_length_le (by exact o37 hfl), hhor] at hgv
    intro c₆ hc₆
    have S := s₃.trans hs
    have hdl : dv + 1 ≤ m * (dv + 1) := Nat.le_mul_of_pos_left _ (by exact o563 hm.1)
    refine bare_ok (by exact o218 hn) il_set (by exact o594 hm.2 hll hq hgl hdl) fun c₇ H₇ hc₇ s₇ hf₇ => ?_
    rw [bare_limbs hbm2 hgL, hgv] at hf₇
    have S6 := S.set (c := c₆) (ob := .lst (gs.map V.int)) (S.none hc₆)
    exact h c₇ H₇ (S6.none hc₇) (S6.trans s₇) hf₇
end Mine
end
section
open PySem PySem.Calls PySem.W PyProof.Rows
set_option maxRecDepth 100000
namespace Mine
variable {B : Int} {Φ : Phi}
noncomputable def hdS : Ss → S
  | .cons s _ => s
  | .nil => .bad
noncomputable def tln : Nat → Ss → Ss
  | 0, s => s
  | k + 1, s => tln k (tl s)
theorem step_in {s : S} {r : Ss} {l : Loc} {H : AH} {K : KQ} (h : execS Φ s l H fun f l' H' => match f with | .next => execsS Φ r l' H' K | .ret v => K (.ret v) l' H') : execsS Φ (.cons s r) l H K := h
noncomputable def LK : KQ := fun f _ H' => match f with | .next => (fun v _ => v = V.bool true) V.none H' | .ret v => (fun (v : V) (_ : AH) => v = V.bool true) v H'
theorem ne_same {H : AH} {a b : Nat} {xs : List Int} {Q : Bool → Prop} (ha : IL H a xs) (hb : IL H b xs) (q : Q false) : cmpS .ne (.ref a) (.ref b) H Q := .inl ⟨xs, xs, ha, hb, by simpa using q⟩
theorem eq_same {H : AH} {a b : Nat} {xs : List Int} {Q : Bool → Prop} (ha : IL H a xs) (hb : IL H b xs) (q : Q true) : cmpS .eq (.ref a) (.ref b) H Q := .inl ⟨xs, xs, ha, hb, by simpa using q⟩
theorem hor_limbs {b v : Int} (hb : 2 ≤ b) (hv : 0 ≤ v) : hor b (limbs b v).reverse = v := by unfold hor; rw [List.reverse_reverse, limbs_val hb v hv]
theorem small_num {b : Int} {ds : List Int} (hb : 2 ≤ b ∧ b ≤ 12) (hd : Lim b ds) (hl : ds.length ≤ 8) : (0 ≤ hor b ds ∧ hor b ds < 2 ^ 32) ∧ b ^ ds.length < 2 ^ 60 := by
  have h1 := hor_lt (by exact o74 hb.1) hd
  have h2 := pow_le (B := b) (by exact o152 hb.1) hl
  have h3 : ∀ k : Nat, b ^ k ≤ 12 ^ k := fun k => by
    induction k with
    | zero => simp
    | succ k ih => rw [Int.pow_succ, Int.pow_succ]; exact Int.mul_le_mul ih hb.2 (by exact o76 hb.1) (Int.le_of_lt (Int.pow_pos (by decide)))
  have h4 := h3 8
  exact o595 h1.1 h1.2 h2 h4
theorem law_tail {n w many : Nat} (hn : 200 ≤ n) (hw : WOk w B) {H : AH} {base third least : Int} {ca cb cd cn : Nat} {as bs : List Int} {x₀ x₁ x₁₀ x₁₁ x₁₃ x₁₄ : Option V} (hbase : 3 ≤ base ∧ base ≤ 12) (hmany : 1 ≤ many ∧ many ≤ 5) (hthird : 3 ≤ third ∧ third ≤ 50)
    (hLa : Lim base as) (hLb : Lim base bs) (hla : as.length ≤ 4) (hlb : bs.length ≤ 4) (ia : IL H ca as) (ib : IL H cb bs) (id' : IL H cd (as ++ bs)) (inn : IL H cn (limbs B (hor base (as ++ bs)))) :
    execsS (callS theDefs n) (tln 11 f_law.body) [x₀, x₁, some (.int w), some (.int base), some (.int least), some (.int (many : Int)), some (.int third), some (.ref ca), some (.ref cb), some (.ref cd), x₁₀, x₁₁, some (.ref cn), x₁₃, x₁₄] H LK := by
  have hLd := hLa.append hLb
  have hld : (as ++ bs).length ≤ 8 := by rw [List.length_append]; exact o596 hla hlb
  obtain ⟨hv, hp60⟩ := small_num (by exact o597 hbase.1 hbase.2) hLd hld
  have ldl := lim_small (show (as ++ bs).length ≤ 1000 by exact o598 hld)
  have lal := lim_small (show as.length ≤ 1000 by exact o599 hla)
  have lbl := lim_small (show bs.length ≤ 1000 by exact o599 hlb)
  generalize hvv : hor base (as ++ bs) = v at *
  show execsS _ (.cons (hdS (tln 11 f_law.body)) (tln 12 f_law.body)) _ _ _
  refine step_in ?_
  generalize hr : tln 12 f_law.body = rest
  have ia' : H ca = some (.lst (as.map V.int)) := ia
  have ib' : H cb = some (.lst (bs.map V.int)) := ib
  have labl : as.length + bs.length ≤ lim := lim_small (by exact o600 hla hlb)
  simp only [x0, x1, x2, x3, x4, x5, x6, x7, x9, x10, x11, x12, x13, x14, x15, x16, x17, x18, x19, x20, x21, x22, x23, x27, x28, x29, x30, x31, x32, x33, x34, x35, x36, x37, x38, x39, x40, x41, x42, x43, x44, x49, x50, x51, x52, x53, forR_eq, forL_eq, forE_eq, idx_eq, x54, x55, x56, x57, x58, x59, x60, x61, x62, x63, x64, x65, x66, x67, x68, x69, x70, x71, x72, x73, x74, x75, x76, x77, x78, x79, x80, x81, x82, x83, x84, x85, x86, x87, x88, x89, x90, x91, x92, yz0, yz1, yz2, yz3, Option.some.injEq, exists_eq_left', exists_eq_left, exists_and_left, V.ref.injEq, V.int.injEq, V.fn.injEq, V.bool.injEq, Ob.lst.injEq, Ob.tup.injEq, decide_eq_true_eq, decide_eq_false_iff_not, Bool.not_eq_true', Bool.not_eq_false', Bool.not_true, Bool.not_false, List.length_map, yz4, yz5, yz6, yz7, yz8, yz9, yz10, yz11, true_and, and_true, reduceCtorEq, Bool.false_eq_true, Bool.true_eq_false, if_true, if_false, false_implies, true_implies, forall_const, and_self, false_and, and_false, or_false, false_or, implies_true, Nat.reduceAdd, Nat.reduceSub, ne_eq, not_true_eq_false, not_false_eq_true, Nat.zero_le, exists_eq', exists_eq, Int.toNat_natCast, AH.set_self, List.cons.injEq, hdS, tln, tl, f_law, ia', ib', labl]
  intro c₁ hc₁
  have s₁ := Sub.new (ob := .lst (as.map V.int ++ bs.map V.int)) hc₁
  have i₁ : IL (H.set c₁ (.lst (as.map V.int ++ bs.map V.int))) c₁ (as ++ bs) := by unfold IL; rw [AH.set_self]; simp
  refine ne_same (s₁.il id') i₁ ?_
  generalize H.set c₁ (.lst (as.map V.int ++ bs.map V.int)) = H₁ at *
  try simp only [x0, x1, x2, x3, x4, x5, x6, x7, x9, x10, x11, x12, x13, x14, x15, x16, x17, x18, x19, x20, x21, x22, x23, x27, x28, x29, x30, x31, x32, x33, x34, x35, x36, x37, x38, x39, x40, x41, x42, x43, x44, x49, x50, x51, x52, x53, forR_eq, forL_eq, forE_eq, idx_eq, x54, x55, x56, x57, x58, x59, x60, x61, x62, x63, x64, x65, x66, x67, x68, x69, x70, x71, x72, x73, x74, x75, x76, x77, x78, x79, x80, x81, x82, x83, x84, x85, x86, x87, x88, x89, x90, x91, x92, yz0, yz1, yz2, yz3, Option.some.injEq, exists_eq_left', exists_eq_left, exists_and_left, V.ref.injEq, V.int.injEq, V.fn.injEq, V.bool.injEq, Ob.lst.injEq, Ob.tup.injEq, decide_eq_true_eq, decide_eq_false_iff_not, Bool.not_eq_true', Bool.not_eq_false', Bool.not_true, Bool.not_false, List.length_map, yz4, yz5, yz6, yz7, yz8, yz9, yz10, yz11, true_and, and_true, reduceCtorEq, Bool.false_eq_true, Bool.true_eq_false, if_true, if_false, false_implies, true_implies, forall_const, and_self, false_and, and_false, or_false, false_or, implies_true, Nat.reduceAdd, Nat.reduceSub, ne_eq, not_true_eq_false, not_false_eq_true, Nat.zero_le, exists_eq', exists_eq, Int.toNat_natCast, AH.set_self, List.cons.injEq]
  refine to_digits_ok (by exact o601 hn) hw (s₁.il inn) hv (by exact o602 hbase.1 hbase.2) fun c₂ H₂ hc₂ s₂ i₂ => ?_
  have t₂ := s₁.trans s₂
  refine bare_ok (by exact o603 hn) (t₂.il id') (by exact o598 hld) fun c₃ H₃ hc₃ s₃ i₃ => ?_
  rw [bare_limbs (by exact o604 hbase.1) hLd, hvv] at i₃
  refine ne_same (s₃.il i₂) i₃ ?_
  have t₃ := t₂.trans s₃
  try simp only [x0, x1, x2, x3, x4, x5, x6, x7, x9, x10, x11, x12, x13, x14, x15, x16, x17, x18, x19, x20, x21, x22, x23, x27, x28, x29, x30, x31, x32, x33, x34, x35, x36, x37, x38, x39, x40, x41, x42, x43, x44, x49, x50, x51, x52, x53, forR_eq, forL_eq, forE_eq, idx_eq, x54, x55, x56, x57, x58, x59, x60, x61, x62, x63, x64, x65, x66, x67, x68, x69, x70, x71, x72, x73, x74, x75, x76, x77, x78, x79, x80, x81, x82, x83, x84, x85, x86, x87, x88, x89, x90, x91, x92, yz0, yz1, yz2, yz3, Option.some.injEq, exists_eq_left', exists_eq_left, exists_and_left, V.ref.injEq, V.int.injEq, V.fn.injEq, V.bool.injEq, Ob.lst.injEq, Ob.tup.injEq, decide_eq_true_eq, decide_eq_false_iff_not, Bool.not_eq_true', Bool.not_eq_false', Bool.not_true, Bool.not_false, List.length_map, yz4, yz5, yz6, yz7, yz8, yz9, yz10, yz11, true_and, and_true, reduceCtorEq, Bool.false_eq_true, Bool.true_eq_false, if_true, if_false, false_implies, true_implies, forall_const, and_self, false_and, and_false, or_false, false_or, implies_true, Nat.reduceAdd, Nat.reduceSub, ne_eq, not_true_eq_false, not_false_eq_true, Nat.zero_le, exists_eq', exists_eq, Int.toNat_natCast, AH.set_self, List.cons.injEq]
  subst hr
  show execsS _ (.cons (hdS (tln 12 f_law.body)) (tln 13 f_law.body)) _ _ _
  refine step_in ?_
  generalize hr : tln 13 f_law.body = rest
  have b64 : base.natAbs < 2 ^ 64 := by exact o605 hbase.1 hbase.2
  have bb : 9 ≤ base * base ∧ base * base ≤ 144 := by
    have h1 := Int.mul_le_mul hbase.1 hbase.1 (by decide) (by exact o606 hbase.1)
    have h2 := Int.mul_le_mul hbase.2 hbase.2 (by exact o606 hbase.1) (by decide)
    exact o607 h1 h2
  simp only [x0, x1, x2, x3, x4, x5, x6, x7, x9, x10, x11, x12, x13, x14, x15, x16, x17, x18, x19, x20, x21, x22, x23, x27, x28, x29, x30, x31, x32, x33, x34, x35, x36, x37, x38, x39, x40, x41, x42, x43, x44, x49, x50, x51, x52, x53, forR_eq, forL_eq, forE_eq, idx_eq, x54, x55, x56, x57, x58, x59, x60, x61, x62, x63, x64, x65, x66, x67, x68, x69, x70, x71, x72, x73, x74, x75, x76, x77, x78, x79, x80, x81, x82, x83, x84, x85, x86, x87, x88, x89, x90, x91, x92, yz0, yz1, yz2, yz3, Option.some.injEq, exists_eq_left', exists_eq_left, exists_and_left, V.ref.injEq, V.int.injEq, V.fn.injEq, V.bool.injEq, Ob.lst.injEq, Ob.tup.injEq, decide_eq_true_eq, decide_eq_false_iff_not, Bool.not_eq_true', Bool.not_eq_false', Bool.not_true, Bool.not_false, List.length_map, yz4, yz5, yz6, yz7, yz8, yz9, yz10, yz11, true_and, and_true, reduceCtorEq, Bool.false_eq_true, Bool.true_eq_false, if_true, if_false, false_implies, true_implies, forall_const, and_self, false_and, and_false, or_false, false_or, implies_true, Nat.reduceAdd, Nat.reduceSub, ne_eq, not_true_eq_false, not_false_eq_true, Nat.zero_le, exists_eq', exists_eq, Int.toNat_natCast, AH.set_self, List.cons.injEq, hdS, tln, tl, f_law, b64]
  refine to_digits_ok (by exact o601 hn) hw (t₃.il inn) hv (by exact o608 bb.1 bb.2) fun c₄ H₄ hc₄ s₄ i₄ => ?_
  have t₄ := t₃.trans s₄
  have e2 : base ^ 2 = base * base := by simp [Int.pow_succ]
  refine taken_ok (m := 2) (by exact o609 hn) (t₄.il id') (by exact o604 hbase.1) hLd (by exact o610) (by rw [e2]; exact o611 bb.2) (by exact o612 hld) fun c₅ H₅ hc₅ s₅ i₅ => ?_
  rw [e2, hvv] at i₅
  refine ne_same (s₅.il i₄) i₅ ?_
  have t₅ := t₄.trans s₅
  try simp only [x0, x1, x2, x3, x4, x5, x6, x7, x9, x10, x11, x12, x13, x14, x15, x16, x17, x18, x19, x20, x21, x22, x23, x27, x28, x29, x30, x31, x32, x33, x34, x35, x36, x37, x38, x39, x40, x41, x42, x43, x44, x49, x50, x51, x52, x53, forR_eq, forL_eq, forE_eq, idx_eq, x54, x55, x56, x57, x58, x59, x60, x61, x62, x63, x64, x65, x66, x67, x68, x69, x70, x71, x72, x73, x74, x75, x76, x77, x78, x79, x80, x81, x82, x83, x84, x85, x86, x87, x88, x89, x90, x91, x92, yz0, yz1, yz2, yz3, Option.some.injEq, exists_eq_left', exists_eq_left, exists_and_left, V.ref.injEq, V.int.injEq, V.fn.injEq, V.bool.injEq, Ob.lst.injEq, Ob.tup.injEq, decide_eq_true_eq, decide_eq_false_iff_not, Bool.not_eq_true', Bool.not_eq_false', Bool.not_true, Bool.not_false, List.length_map, yz4, yz5, yz6, yz7, yz8, yz9, yz10, yz11, true_and, and_true, reduceCtorEq, Bool.false_eq_true, Bool.true_eq_false, if_true, if_false, false_implies, true_implies, forall_const, and_self, false_and, and_false, or_false, false_or, implies_true, Nat.reduceAdd, Nat.reduceSub, ne_eq, not_true_eq_false, not_false_eq_true, Nat.zero_le, exists_eq', exists_eq, Int.toNat_natCast, AH.set_self, List.cons.injEq]
  subst hr
  show execsS _ (.cons (hdS (tln 13 f_law.body)) (tln 14 f_law.body)) _ _ _
  refine step_in ?_
  generalize hr : tln 14 f_law.body = rest
  simp only [x0, x1, x2, x3, x4, x5, x6, x7, x9, x10, x11, x12, x13, x14, x15, x16, x17, x18, x19, x20, x21, x22, x23, x27, x28, x29, x30, x31, x32, x33, x34, x35, x36, x37, x38, x39, x40, x41, x42, x43, x44, x49, x50, x51, x52, x53, forR_eq, forL_eq, forE_eq, idx_eq, x54, x55, x56, x57, x58, x59, x60, x61, x62, x63, x64, x65, x66, x67, x68, x69, x70, x71, x72, x73, x74, x75, x76, x77, x78, x79, x80, x81, x82, x83, x84, x85, x86, x87, x88, x89, x90, x91, x92, yz0, yz1, yz2, yz3, Option.some.injEq, exists_eq_left', exists_eq_left, exists_and_left, V.ref.injEq, V.int.injEq, V.fn.injEq, V.bool.injEq, Ob.lst.injEq, Ob.tup.injEq, decide_eq_true_eq, decide_eq_false_iff_not, Bool.not_eq_true', Bool.not_eq_false', Bool.not_true, Bool.not_false, List.length_map, yz4, yz5, yz6, yz7, yz8, yz9, yz10, yz11, true_and, and_true, reduceCtorEq, Bool.false_eq_true, Bool.true_eq_false, if_true, if_false, false_implies, true_implies, forall_const, and_self, false_and, and_false, or_false, false_or, implies_true, Nat.reduceAdd, Nat.reduceSub, ne_eq, not_true_eq_false, not_false_eq_true, Nat.zero_le, exists_eq', exists_eq, Int.toNat_natCast, AH.set_self, List.cons.injEq, hdS, tln, tl, f_law]
  refine to_digits_ok (by exact o601 hn) hw (t₅.il inn) hv (by exact o613) fun c₆ H₆ hc₆ s₆ i₆ => ?_
  have t₆ := t₅.trans s₆
  try simp only [x0, x1, x2, x3, x4, x5, x6, x7, x9, x10, x11, x12, x13, x14, x15, x16, x17, x18, x19, x20, x21, x22, x23, x27, x28, x29, x30, x31, x32, x33, x34, x35, x36, x37, x38, x39, x40, x41, x42, x43, x44, x49, x50, x51, x52, x53, forR_eq, forL_eq, forE_eq, idx_eq, x54, x55, x56, x57, x58, x59, x60, x61, x62, x63, x64, x65, x66, x67, x68, x69, x70, x71, x72, x73, x74, x75, x76, x77, x78, x79, x80, x81, x82, x83, x84, x85, x86, x87, x88, x89, x90, x91, x92, yz0, yz1, yz2, yz3, Option.some.injEq, exists_eq_left', exists_eq_left, exists_and_left, V.ref.injEq, V.int.injEq, V.fn.injEq, V.bool.injEq, Ob.lst.injEq, Ob.tup.injEq, decide_eq_true_eq, decide_eq_false_iff_not, Bool.not_eq_true', Bool.not_eq_false', Bool.not_true, Bool.not_false, List.length_map, yz4, yz5, yz6, yz7, yz8, yz9, yz10, yz11, true_and, and_true, reduceCtorEq, Bool.false_eq_true, Bool.true_eq_false, if_true, if_false, false_implies, true_implies, forall_const, and_self, false_and, and_false, or_false, false_or, implies_true, Nat.reduceAdd, Nat.reduceSub, ne_eq, not_true_eq_false, not_false_eq_true, Nat.zero_le, exists_eq', exists_eq, Int.toNat_natCast, AH.set_self, List.cons.injEq]
  subst hr
  show execsS _ (.cons (hdS (tln 14 f_law.body)) (tln 15 f_law.body)) _ _ _
  refine step_in ?_
  generalize hr : tln 15 f_law.body = rest
  have two64 : (2 : Int).natAbs < 2 ^ 64 := by decide
  have m0 : (0 : Int) ≤ (many : Int) := by exact o143
  have m1 : (many : Int) ≤ 1000 := by exact o614 hmany.2
  simp only [x0, x1, x2, x3, x4, x5, x6, x7, x9, x10, x11, x12, x13, x14, x15, x16, x17, x18, x19, x20, x21, x22, x23, x27, x28, x29, x30, x31, x32, x33, x34, x35, x36, x37, x38, x39, x40, x41, x42, x43, x44, x49, x50, x51, x52, x53, forR_eq, forL_eq, forE_eq, idx_eq, x54, x55, x56, x57, x58, x59, x60, x61, x62, x63, x64, x65, x66, x67, x68, x69, x70, x71, x72, x73, x74, x75, x76, x77, x78, x79, x80, x81, x82, x83, x84, x85, x86, x87, x88, x89, x90, x91, x92, yz0, yz1, yz2, yz3, Option.some.injEq, exists_eq_left', exists_eq_left, exists_and_left, V.ref.injEq, V.int.injEq, V.fn.injEq, V.bool.injEq, Ob.lst.injEq, Ob.tup.injEq, decide_eq_true_eq, decide_eq_false_iff_not, Bool.not_eq_true', Bool.not_eq_false', Bool.not_true, Bool.not_false, List.length_map, yz4, yz5, yz6, yz7, yz8, yz9, yz10, yz11, true_and, and_true, reduceCtorEq, Bool.false_eq_true, Bool.true_eq_false, if_true, if_false, false_implies, true_implies, forall_const, and_self, false_and, and_false, or_false, false_or, implies_true, Nat.reduceAdd, Nat.reduceSub, ne_eq, not_true_eq_false, not_false_eq_true, Nat.zero_le, exists_eq', exists_eq, Int.toNat_natCast, AH.set_self, List.cons.injEq, hdS, tln, tl, f_law, two64, m0, m1]
  have pm : 2 ≤ (2 : Int) ^ many ∧ (2 : Int) ^ many ≤ 32 := by
    have h1 := pow_le (B := 2) (by decide) hmany.1
    have h2 := pow_le (B := 2) (by decide) hmany.2
    exact o615 h1 h2
  refine to_digits_ok (by exact o601 hn) hw (t₆.il inn) hv (by exact o616 pm.1 pm.2) fun c₇ H₇ hc₇ s₇ i₇ => ?_
  have t₇ := t₆.trans s₇
  have ltw : (limbs 2 v).reverse.length ≤ 100 := by
    rw [List.length_reverse]
    have := limbs_len (B := 2) (by decide) 32 v hv.1 hv.2
    exact o617 this
  refine taken_ok (m := many) (by exact o609 hn) (s₇.il i₆) (by decide) (limbs_lim (by decide) v hv.1).rev (by exact o618 hmany.1 hmany.2) (by exact o619 pm.2) ltw fun c₈ H₈ hc₈ s₈ i₈ => ?_
  rw [hor_limbs (by decide) hv.1] at i₈
  refine ne_same (s₈.il i₇) i₈ ?_
  have t₈ := t₇.trans s₈
  try simp only [x0, x1, x2, x3, x4, x5, x6, x7, x9, x10, x11, x12, x13, x14, x15, x16, x17, x18, x19, x20, x21, x22, x23, x27, x28, x29, x30, x31, x32, x33, x34, x35, x36, x37, x38, x39, x40, x41, x42, x43, x44, x49, x50, x51, x52, x53, forR_eq, forL_eq, forE_eq, idx_eq, x54, x55, x56, x57, x58, x59, x60, x61, x62, x63, x64, x65, x66, x67, x68, x69, x70, x71, x72, x73, x74, x75, x76, x77, x78, x79, x80, x81, x82, x83, x84, x85, x86, x87, x88, x89, x90, x91, x92, yz0, yz1, yz2, yz3, Option.some.injEq, exists_eq_left', exists_eq_left, exists_and_left, V.ref.injEq, V.int.injEq, V.fn.injEq, V.bool.injEq, Ob.lst.injEq, Ob.tup.injEq, decide_eq_true_eq, decide_eq_false_iff_not, Bool.not_eq_true', Bool.not_eq_false', Bool.not_true, Bool.not_false, List.length_map, yz4, yz5, yz6, yz7, yz8, yz9, yz10, yz11, true_and, and_true, reduceCtorEq, Bool.false_eq_true, Bool.true_eq_false, if_true, if_false, false_implies, true_implies, forall_const, and_self, false_and, and_false, or_false, false_or, implies_true, Nat.reduceAdd, Nat.reduceSub, ne_eq, not_true_eq_false, not_false_eq_true, Nat.zero_le, exists_eq', exists_eq, Int.toNat_natCast, AH.set_self, List.cons.injEq]
  subst hr
  show execsS _ (.cons (hdS (tln 15 f_law.body)) (tln 16 f_law.body)) _ _ _
  refine step_in ?_
  generalize hr : tln 16 f_law.body = rest
  simp only [x0, x1, x2, x3, x4, x5, x6, x7, x9, x10, x11, x12, x13, x14, x15, x16, x17, x18, x19, x20, x21, x22, x23, x27, x28, x29, x30, x31, x32, x33, x34, x35, x36, x37, x38, x39, x40, x41, x42, x43, x44, x49, x50, x51, x52, x53, forR_eq, forL_eq, forE_eq, idx_eq, x54, x55, x56, x57, x58, x59, x60, x61, x62, x63, x64, x65, x66, x67, x68, x69, x70, x71, x72, x73, x74, x75, x76, x77, x78, x79, x80, x81, x82, x83, x84, x85, x86, x87, x88, x89, x90, x91, x92, yz0, yz1, yz2, yz3, Option.some.injEq, exists_eq_left', exists_eq_left, exists_and_left, V.ref.injEq, V.int.injEq, V.fn.injEq, V.bool.injEq, Ob.lst.injEq, Ob.tup.injEq, decide_eq_true_eq, decide_eq_false_iff_not, Bool.not_eq_true', Bool.not_eq_false', Bool.not_true, Bool.not_false, List.length_map, yz4, yz5, yz6, yz7, yz8, yz9, yz10, yz11, true_and, and_true, reduceCtorEq, Bool.false_eq_true, Bool.true_eq_false, if_true, if_false, false_implies, true_implies, forall_const, and_self, false_and, and_false, or_false, false_or, implies_true, Nat.reduceAdd, Nat.reduceSub, ne_eq, not_true_eq_false, not_false_eq_true, Nat.zero_le, exists_eq', exists_eq, Int.toNat_natCast, AH.set_self, List.cons.injEq, hdS, tln, tl, f_law]
  refine to_digits_ok (by exact o601 hn) hw (t₈.il inn) hv (by exact o620 hthird.1 hthird.2) fun c₉ H₉ hc₉ s₉ i₉ => ?_
  have t₉ := t₈.trans s₉
  try simp only [x0, x1, x2, x3, x4, x5, x6, x7, x9, x10, x11, x12, x13, x14, x15, x16, x17, x18, x19, x20, x21, x22, x23, x27, x28, x29, x30, x31, x32, x33, x34, x35, x36, x37, x38, x39, x40, x41, x42, x43, x44, x49, x50, x51, x52, x53, forR_eq, forL_eq, forE_eq, idx_eq, x54, x55, x56, x57, x58, x59, x60, x61, x62, x63, x64, x65, x66, x67, x68, x69, x70, x71, x72, x73, x74, x75, x76, x77, x78, x79, x80, x81, x82, x83, x84, x85, x86, x87, x88, x89, x90, x91, x92, yz0, yz1, yz2, yz3, Option.some.injEq, exists_eq_left', exists_eq_left, exists_and_left, V.ref.injEq, V.int.injEq, V.fn.injEq, V.bool.injEq, Ob.lst.injEq, Ob.tup.injEq, decide_eq_true_eq, decide_eq_false_iff_not, Bool.not_eq_true', Bool.not_eq_false', Bool.not_true, Bool.not_false, List.length_map, yz4, yz5, yz6, yz7, yz8, yz9, yz10, yz11, true_and, and_true, reduceCtorEq, Bool.false_eq_true, Bool.true_eq_false, if_true, if_false, false_implies, true_implies, forall_const, and_self, false_and, and_false, or_false, false_or, implies_true, Nat.reduceAdd, Nat.reduceSub, ne_eq, not_true_eq_false, not_false_eq_true, Nat.zero_le, exists_eq', exists_eq, Int.toNat_natCast, AH.set_self, List.cons.injEq]
  subst hr
  show execsS _ (.cons (hdS (tln 16 f_law.body)) (tln 17 f_law.body)) _ _ _
  refine step_in ?_
  generalize hr : tln 17 f_law.body = rest
  simp only [x0, x1, x2, x3, x4, x5, x6, x7, x9, x10, x11, x12, x13, x14, x15, x16, x17, x18, x19, x20, x21, x22, x23, x27, x28, x29, x30, x31, x32, x33, x34, x35, x36, x37, x38, x39, x40, x41, x42, x43, x44, x49, x50, x51, x52, x53, forR_eq, forL_eq, forE_eq, idx_eq, x54, x55, x56, x57, x58, x59, x60, x61, x62, x63, x64, x65, x66, x67, x68, x69, x70, x71, x72, x73, x74, x75, x76, x77, x78, x79, x80, x81, x82, x83, x84, x85, x86, x87, x88, x89, x90, x91, x92, yz0, yz1, yz2, yz3, Option.some.injEq, exists_eq_left', exists_eq_left, exists_and_left, V.ref.injEq, V.int.injEq, V.fn.injEq, V.bool.injEq, Ob.lst.injEq, Ob.tup.injEq, decide_eq_true_eq, decide_eq_false_iff_not, Bool.not_eq_true', Bool.not_eq_false', Bool.not_true, Bool.not_false, List.length_map, yz4, yz5, yz6, yz7, yz8, yz9, yz10, yz11, true_and, and_true, reduceCtorEq, Bool.false_eq_true, Bool.true_eq_false, if_true, if_false, false_implies, true_implies, forall_const, and_self, false_and, and_false, or_false, false_or, implies_true, Nat.reduceAdd, Nat.reduceSub, ne_eq, not_true_eq_false, not_false_eq_true, Nat.zero_le, exists_eq', exists_eq, Int.toNat_natCast, AH.set_self, List.cons.injEq, hdS, tln, tl, f_law]
  have lth : (limbs third v).reverse.length ≤ 32 := by
    rw [List.length_reverse]
    refine limbs_len (by exact o604 hthird.1) 32 v hv.1 (Int.lt_of_lt_of_le hv.2 (pow_mono (by exact o604 hthird.1) 32))
  have pth : third ^ (limbs third v).reverse.length < 2 ^ 60 := by
    rw [List.length_reverse]
    rcases Int.lt_or_eq_of_le hv.1 with z | z
    · have h1 := limbs_len_lt (B := third) (by exact o604 hthird.1) z
      have hne : limbs third v ≠ [] := fun e => by have := (limbs_eq_nil (by exact o604 hthird.1) hv.1).mp e; exact o208 z this
      have hlen := List.length_pos_iff.mpr hne
      have h2 : third ^ (limbs third v).length = third ^ ((limbs third v).length - 1) * third := by
        conv => lhs; rw [show (limbs third v).length = (limbs third v).length - 1 + 1 by exact o97 hlen]
        rw [Int.pow_succ]
      have h3 := Int.mul_le_mul (show third ^ ((limbs third v).length - 1) ≤ 2 ^ 32 by exact o433 hv.2 h1) hthird.2 (by exact o606 hthird.1) (by decide)
      exact o621 h2 h3
    · rw [← z, limbs_zero]; simp
  refine from_digits_ok (by exact o601 hn) hw i₉ (limbs_lim (by exact o604 hthird.1) v hv.1).rev (by exact o620 hthird.1 hthird.2) pth (by exact o622 lth) fun d₁ G₁ hd₁ u₁ j₁ => ?_
  rw [hor_limbs (by exact o604 hthird.1) hv.1] at j₁
  refine ne_same j₁ (u₁.il (t₉.il inn)) ?_
  have l9 := lim_small (show (limbs third v).reverse.length ≤ 1000 by exact o427 lth)
  try simp only [x0, x1, x2, x3, x4, x5, x6, x7, x9, x10, x11, x12, x13, x14, x15, x16, x17, x18, x19, x20, x21, x22, x23, x27, x28, x29, x30, x31, x32, x33, x34, x35, x36, x37, x38, x39, x40, x41, x42, x43, x44, x49, x50, x51, x52, x53, forR_eq, forL_eq, forE_eq, idx_eq, x54, x55, x56, x57, x58, x59, x60, x61, x62, x63, x64, x65, x66, x67, x68, x69, x70, x71, x72, x73, x74, x75, x76, x77, x78, x79, x80, x81, x82, x83, x84, x85, x86, x87, x88, x89, x90, x91, x92, yz0, yz1, yz2, yz3, Option.some.injEq, exists_eq_left', exists_eq_left, exists_and_left, V.ref.injEq, V.int.injEq, V.fn.injEq, V.bool.injEq, Ob.lst.injEq, Ob.tup.injEq, decide_eq_true_eq, decide_eq_false_iff_not, Bool.not_eq_true', Bool.not_eq_false', Bool.not_true, Bool.not_false, List.length_map, yz4, yz5, yz6, yz7, yz8, yz9, yz10, yz11, true_and, and_true, reduceCtorEq, Bool.false_eq_true, Bool.true_eq_false, if_true, if_false, false_implies, true_implies, forall_const, and_self, false_and, and_false, or_false, false_or, implies_true, Nat.reduceAdd, Nat.reduceSub, ne_eq, not_true_eq_false, not_false_eq_true, Nat.zero_le, exists_eq', exists_eq, Int.toNat_natCast, AH.set_self, List.cons.injEq]
  refine cut_il (u₁.il i₉) l9 fun d₂ hd₂ => ?_
  have u₂ := Sub.new (ob := .lst ((((limbs third v).reverse.drop ((none : Option Int).elim 0 (clipAt (limbs third v).reverse.length))).take ((some (1 : Int)).elim (limbs third v).reverse.length (clipAt (limbs third v).reverse.length) - (none : Option Int).elim 0 (clipAt (limbs third v).reverse.length))).map V.int)) hd₂
  have hnot : ¬ (0 : Int) ∈ ((limbs third v).reverse.drop ((none : Option Int).elim 0 (clipAt (limbs third v).reverse.length))).take ((some (1 : Int)).elim (limbs third v).reverse.length (clipAt (limbs third v).reverse.length) - (none : Option Int).elim 0 (clipAt (limbs third v).reverse.length)) := by
    intro hmem
    have hle : (some (1 : Int)).elim (limbs third v).reverse.length (clipAt (limbs third v).reverse.length) - (none : Option Int).elim 0 (clipAt (limbs third v).reverse.length) ≤ 1 := by
      show clipAt _ 1 - 0 ≤ 1
      unfold clipAt; rw [if_neg (by decide)]; exact o623
    have hmem' : (0 : Int) ∈ (limbs third v).reverse.take 1 := by
      have := List.take_subset_take_left (l := (limbs third v).reverse) hle
      exact this (by simpa using hmem)
    have hlast := limbs_last (B := third) (by exact o604 hthird.1) v hv.1
    cases hq : (limbs third v).reverse with
    | nil => rw [hq] at hmem'; simp at hmem'
    | cons y t =>
      rw [hq] at hmem'
      simp at hmem'
      have : (limbs third v).getLast? = some y := by
        have h1 := List.head?_reverse (l := limbs third v)
        rw [hq] at h1
        simpa using h1.symm
      rw [← hmem'] at this
      exact hlast this
  refine ⟨rfl, _, il_set, ?_⟩
  simp only [hnot, decide_false]
  try simp only [x0, x1, x2, x3, x4, x5, x6, x7, x9, x10, x11, x12, x13, x14, x15, x16, x17, x18, x19, x20, x21, x22, x23, x27, x28, x29, x30, x31, x32, x33, x34, x35, x36, x37, x38, x39, x40, x41, x42, x43, x44, x49, x50, x51, x52, x53, forR_eq, forL_eq, forE_eq, idx_eq, x54, x55, x56, x57, x58, x59, x60, x61, x62, x63, x64, x65, x66, x67, x68, x69, x70, x71, x72, x73, x74, x75, x76, x77, x78, x79, x80, x81, x82, x83, x84, x85, x86, x87, x88, x89, x90, x91, x92, yz0, yz1, yz2, yz3, Option.some.injEq, exists_eq_left', exists_eq_left, exists_and_left, V.ref.injEq, V.int.injEq, V.fn.injEq, V.bool.injEq, Ob.lst.injEq, Ob.tup.injEq, decide_eq_true_eq, decide_eq_false_iff_not, Bool.not_eq_true', Bool.not_eq_false', Bool.not_true, Bool.not_false, List.length_map, yz4, yz5, yz6, yz7, yz8, yz9, yz10, yz11, true_and, and_true, reduceCtorEq, Bool.false_eq_true, Bool.true_eq_false, if_true, if_false, false_implies, true_implies, forall_const, and_self, false_and, and_false, or_false, false_or, implies_true, Nat.reduceAdd, Nat.reduceSub, ne_eq, not_true_eq_false, not_false_eq_true, Nat.zero_le, exists_eq', exists_eq, Int.toNat_natCast, AH.set_self, List.cons.injEq]
  subst hr
  have t₁₀ := (t₉.trans u₁).trans u₂
  generalize hG : G₁.set d₂ _ = G₂ at *
  show execsS _ (.cons (hdS (tln 17 f_law.body)) (tln 18 f_law.body)) _ _ _
  refine step_in ?_
  generalize hr : tln 18 f_law.body = rest
  simp only [x0, x1, x2, x3, x4, x5, x6, x7, x9, x10, x11, x12, x13, x14, x15, x16, x17, x18, x19, x20, x21, x22, x23, x27, x28, x29, x30, x31, x32, x33, x34, x35, x36, x37, x38, x39, x40, x41, x42, x43, x44, x49, x50, x51, x52, x53, forR_eq, forL_eq, forE_eq, idx_eq, x54, x55, x56, x57, x58, x59, x60, x61, x62, x63, x64, x65, x66, x67, x68, x69, x70, x71, x72, x73, x74, x75, x76, x77, x78, x79, x80, x81, x82, x83, x84, x85, x86, x87, x88, x89, x90, x91, x92, yz0, yz1, yz2, yz3, Option.some.injEq, exists_eq_left', exists_eq_left, exists_and_left, V.ref.injEq, V.int.injEq, V.fn.injEq, V.bool.injEq, Ob.lst.injEq, Ob.tup.injEq, decide_eq_true_eq, decide_eq_false_iff_not, Bool.not_eq_true', Bool.not_eq_false', Bool.not_true, Bool.not_false, List.length_map, yz4, yz5, yz6, yz7, yz8, yz9, yz10, yz11, true_and, and_true, reduceCtorEq, Bool.false_eq_true, Bool.true_eq_false, if_true, if_false, false_implies, true_implies, forall_const, and_self, false_and, and_false, or_false, false_or, implies_true, Nat.reduceAdd, Nat.reduceSub, ne_eq, not_true_eq_false, not_false_eq_true, Nat.zero_le, exists_eq', exists_eq, Int.toNat_natCast, AH.set_self, List.cons.injEq, hdS, tln, tl, f_law]
  refine placed_ok (by exact o603 hn) (t₁₀.il id') (fun d hd => by have := hLd d hd; exact o624 hbase.2 this.1 this.2) (by exact o625 hbase.1) hp60 (by exact o598 hld) fun G₃ u₃ => ?_
  rw [hvv]
  refine law_limbs_ok (by exact o603 hn) hw hv.1 (by exact o448 hv.2) fun d₄ G₄ hd₄ u₄ j₄ => ?_
  refine eq_same (u₄.il (u₃.il (t₁₀.il inn))) j₄ ?_
  rfl
end Mine
end
section
open PySem PySem.Calls PySem.W PyProof.Rows
set_option maxRecDepth 100000
namespace Mine
variable {B : Int} {Φ : Phi}
theorem ILs.sub {H H' : AH} (s : Sub H H') {rs : List Nat} {iss : List (List Int)} (h : ILs H rs iss) : ILs H' rs iss := by
  induction h with
  | nil => exact .nil
  | cons h1 _ ih => exact .cons (s.il h1) ih
theorem ILs.snoc {H : AH} {rs : List Nat} {iss : List (List Int)} {r : Nat} {is : List Int} (h : ILs H rs iss) (hr : IL H r is) : ILs H (rs ++ [r]) (iss ++ [is]) := by
  induction h with
  | nil => exact .cons hr .nil
  | cons h1 _ ih => exact .cons h1 ih
theorem ILs.at {H : AH} {rs : List Nat} {iss : List (List Int)} (h : ILs H rs iss) : ∀ {k : Nat} {r : Nat}, rs[k]? = some r → ∃ is, iss[k]? = some is ∧ IL H r is := by
  induction h with
  | nil => intro k r e; simp at e
  | @cons a as i is h1 _ ih =>
    intro k r e
    cases k with
    | zero => simp at e; subst e; exact ⟨i, by simp, h1⟩
    | succ k => simp at e; obtain ⟨is', q1, q2⟩ := ih e; exact ⟨is', by simpa using q1, q2⟩
theorem ILs.len {H : AH} {rs : List Nat} {iss : List (List Int)} (h : ILs H rs iss) : rs.length = iss.length := by
  induction h with
  | nil => rfl
  | cons _ _ ih => simp [ih]
theorem ne_rows {H : AH} {a b : Nat} {xs : List (List Int)} {Q : Bool → Prop} (ha : LL H a xs) (hb : LL H b xs) (q : Q false) : cmpS .ne (.ref a) (.ref b) H Q := .inr ⟨xs, xs, ha, hb, by simpa using q⟩
theorem law_mid {n w many : Nat} (hn : 200 ≤ n) (hw : WOk w B) {H : AH} {base third least : Int} {ca cb : Nat} {as bs : List Int} {x₀ x₁ : Option V} (hbase : 3 ≤ base ∧ base ≤ 12) (hmany : 1 ≤ many ∧ many ≤ 5) (hthird : 3 ≤ third ∧ third ≤ 50)
    (hLa : Lim base as) (hLb : Lim base bs) (hla : as.length ≤ 4) (hlb : bs.length ≤ 4) (ia : IL H ca as) (ib : IL H cb bs) :
    execsS (callS theDefs n) (tln 5 f_law.body) [x₀, x₁, some (.int w), some (.int base), some (.int least), some (.int (many : Int)), some (.int third), some (.ref ca), some (.ref cb), none, none, none, none, none, none] H LK := by
  have hLd := hLa.append hLb
  have hld : (as ++ bs).length ≤ 8 := by rw [List.length_append]; exact o596 hla hlb
  have lal := lim_small (show as.length ≤ 1000 by exact o599 hla)
  have lbl := lim_small (show bs.length ≤ 1000 by exact o599 hlb)
  show execsS _ (.cons (hdS (tln 5 f_law.body)) (tln 6 f_law.body)) _ _ _
  refine step_in ?_
  generalize hr : tln 6 f_law.body = rest
  have ia' : H ca = some (.lst (as.map V.int)) := ia
  have ib' : H cb = some (.lst (bs.map V.int)) := ib
  have labl : as.length + bs.length ≤ lim := lim_small (by exact o600 hla hlb)
  simp only [x0, x1, x2, x3, x4, x5, x6, x7, x9, x10, x11, x12, x13, x14, x15, x16, x17, x18, x19, x20, x21, x22, x23, x27, x28, x29, x30, x31, x32, x33, x34, x35, x36, x37, x38, x39, x40, x41, x42, x43, x44, x49, x50, x51, x52, x53, forR_eq, forL_eq, forE_eq, idx_eq, x54, x55, x56, x57, x58, x59, x60, x61, x62, x63, x64, x65, x66, x67, x68, x69, x70, x71, x72, x73, x74, x75, x76, x77, x78, x79, x80, x81, x82, x83, x84, x85, x86, x87, x88, x89, x90, x91, x92, yz0, yz1, yz2, yz3, Option.some.injEq, exists_eq_left', exists_eq_left, exists_and_left, V.ref.injEq, V.int.injEq, V.fn.injEq, V.bool.injEq, Ob.lst.injEq, Ob.tup.injEq, decide_eq_true_eq, decide_eq_false_iff_not, Bool.not_eq_true', Bool.not_eq_false', Bool.not_true, Bool.not_false, List.length_map, yz4, yz5, yz6, yz7, yz8, yz9, yz10, yz11, true_and, and_true, reduceCtorEq, Bool.false_eq_true, Bool.true_eq_false, if_true, if_false, false_implies, true_implies, forall_const, and_self, false_and, and_false, or_false, false_or, implies_true, Nat.reduceAdd, Nat.reduceSub, ne_eq, not_true_eq_false, not_false_eq_true, Nat.zero_le, exists_eq', exists_eq, Int.toNat_natCast, AH.set_self, List.cons.injEq, hdS, tln, tl, f_law, ia', ib', labl]
  intro cd hcd
  have s₁ := Sub.new (ob := .lst (as.map V.int ++ bs.map V.int)) hcd
  have i₁ : IL (H.set cd (.lst (as.map V.int ++ bs.map V.int))) cd (as ++ bs) := by unfold IL; rw [AH.set_self]; simp
  generalize H.set cd (.lst (as.map V.int ++ bs.map V.int)) = H₁ at *
  subst hr
  show execsS _ (.cons (hdS (tln 6 f_law.body)) (tln 7 f_law.body)) _ _ _
  refine step_in ?_
  generalize hr : tln 7 f_law.body = rest
  have l1 : 0 + 1 ≤ lim := lim_small (by exact o626)
  have l2 : 0 + 1 + 1 ≤ lim := lim_small (by exact o627)
  have l5 : 0 + 1 + 1 + 1 + 1 + 1 ≤ lim := lim_small (by exact o628)
  have z1 : -(lim : Int) ≤ (bs.length : Int) := by exact o206
  have z2 : (bs.length : Int) ≤ (lim : Int) := by exact o207 lbl
  simp only [x0, x1, x2, x3, x4, x5, x6, x7, x9, x10, x11, x12, x13, x14, x15, x16, x17, x18, x19, x20, x21, x22, x23, x27, x28, x29, x30, x31, x32, x33, x34, x35, x36, x37, x38, x39, x40, x41, x42, x43, x44, x49, x50, x51, x52, x53, forR_eq, forL_eq, forE_eq, idx_eq, x54, x55, x56, x57, x58, x59, x60, x61, x62, x63, x64, x65, x66, x67, x68, x69, x70, x71, x72, x73, x74, x75, x76, x77, x78, x79, x80, x81, x82, x83, x84, x85, x86, x87, x88, x89, x90, x91, x92, yz0, yz1, yz2, yz3, Option.some.injEq, exists_eq_left', exists_eq_left, exists_and_left, V.ref.injEq, V.int.injEq, V.fn.injEq, V.bool.injEq, Ob.lst.injEq, Ob.tup.injEq, decide_eq_true_eq, decide_eq_false_iff_not, Bool.not_eq_true', Bool.not_eq_false', Bool.not_true, Bool.not_false, List.length_map, yz4, yz5, yz6, yz7, yz8, yz9, yz10, yz11, true_and, and_true, reduceCtorEq, Bool.false_eq_true, Bool.true_eq_false, if_true, if_false, false_implies, true_implies, forall_const, and_self, false_and, and_false, or_false, false_or, implies_true, Nat.reduceAdd, Nat.reduceSub, ne_eq, not_true_eq_false, not_false_eq_true, Nat.zero_le, exists_eq', exists_eq, Int.toNat_natCast, AH.set_self, List.cons.injEq, hdS, tln, tl, f_law, l1, l2, l5]
  intro d₁ hd₁ d₂ hd₂
  have u₁ := Sub.new (ob := .lst [V.int 1]) hd₁
  have u₂ := Sub.new (ob := .lst [V.int 0]) hd₂
  have ib₂ : ((H₁.set d₁ (.lst [V.int 1])).set d₂ (.lst [V.int 0])) cb = some (.lst (bs.map V.int)) := u₂.il (u₁.il (s₁.il ib))
  simp only [x0, x1, x2, x3, x4, x5, x6, x7, x9, x10, x11, x12, x13, x14, x15, x16, x17, x18, x19, x20, x21, x22, x23, x27, x28, x29, x30, x31, x32, x33, x34, x35, x36, x37, x38, x39, x40, x41, x42, x43, x44, x49, x50, x51, x52, x53, forR_eq, forL_eq, forE_eq, idx_eq, x54, x55, x56, x57, x58, x59, x60, x61, x62, x63, x64, x65, x66, x67, x68, x69, x70, x71, x72, x73, x74, x75, x76, x77, x78, x79, x80, x81, x82, x83, x84, x85, x86, x87, x88, x89, x90, x91, x92, yz0, yz1, yz2, yz3, Option.some.injEq, exists_eq_left', exists_eq_left, exists_and_left, V.ref.injEq, V.int.injEq, V.fn.injEq, V.bool.injEq, Ob.lst.injEq, Ob.tup.injEq, decide_eq_true_eq, decide_eq_false_iff_not, Bool.not_eq_true', Bool.not_eq_false', Bool.not_true, Bool.not_false, List.length_map, yz4, yz5, yz6, yz7, yz8, yz9, yz10, yz11, true_and, and_true, reduceCtorEq, Bool.false_eq_true, Bool.true_eq_false, if_true, if_false, false_implies, true_implies, forall_const, and_self, false_and, and_false, or_false, false_or, implies_true, Nat.reduceAdd, Nat.reduceSub, ne_eq, not_true_eq_false, not_false_eq_true, Nat.zero_le, exists_eq', exists_eq, Int.toNat_natCast, AH.set_self, List.cons.injEq, ib₂, lbl, z1, z2]
  intro d₃ hd₃
  have u₃ := Sub.new (ob := .lst (List.replicate bs.length (V.int 0))) hd₃
  have j₁ : (((H₁.set d₁ (.lst [V.int 1])).set d₂ (.lst [V.int 0])).set d₃ (.lst (List.replicate bs.length (V.int 0)))) d₁ = some (.lst [V.int 1]) := u₃ _ _ (u₂ _ _ AH.set_self)
  have l6 : 0 + 1 + bs.length ≤ lim := lim_small (by exact o629 hlb)
  simp only [x0, x1, x2, x3, x4, x5, x6, x7, x9, x10, x11, x12, x13, x14, x15, x16, x17, x18, x19, x20, x21, x22, x23, x27, x28, x29, x30, x31, x32, x33, x34, x35, x36, x37, x38, x39, x40, x41, x42, x43, x44, x49, x50, x51, x52, x53, forR_eq, forL_eq, forE_eq, idx_eq, x54, x55, x56, x57, x58, x59, x60, x61, x62, x63, x64, x65, x66, x67, x68, x69, x70, x71, x72, x73, x74, x75, x76, x77, x78, x79, x80, x81, x82, x83, x84, x85, x86, x87, x88, x89, x90, x91, x92, yz0, yz1, yz2, yz3, Option.some.injEq, exists_eq_left', exists_eq_left, exists_and_left, V.ref.injEq, V.int.injEq, V.fn.injEq, V.bool.injEq, Ob.lst.injEq, Ob.tup.injEq, decide_eq_true_eq, decide_eq_false_iff_not, Bool.not_eq_true', Bool.not_eq_false', Bool.not_true, Bool.not_false, List.length_map, yz4, yz5, yz6, yz7, yz8, yz9, yz10, yz11, true_and, and_true, reduceCtorEq, Bool.false_eq_true, Bool.true_eq_false, if_true, if_false, false_implies, true_implies, forall_const, and_self, false_and, and_false, or_false, false_or, implies_true, Nat.reduceAdd, Nat.reduceSub, ne_eq, not_true_eq_false, not_false_eq_true, Nat.zero_le, exists_eq', exists_eq, Int.toNat_natCast, AH.set_self, List.cons.injEq, j₁, List.length_replicate, l6]
  intro ce hce d₄ hd₄
  have u₄ := Sub.new (ob := .lst (V.int 1 :: List.replicate bs.length (V.int 0))) hce
  have i₄ : IL ((((H₁.set d₁ (.lst [V.int 1])).set d₂ (.lst [V.int 0])).set d₃ (.lst (List.replicate bs.length (V.int 0)))).set ce (.lst (V.int 1 :: List.replicate bs.length (V.int 0)))) ce (1 :: List.replicate bs.length 0) := by unfold IL; rw [AH.set_self]; simp
  have v₄ := ((u₁.trans u₂).trans u₃).trans u₄
  generalize (((H₁.set d₁ (.lst [V.int 1])).set d₂ (.lst [V.int 0])).set d₃ (.lst (List.replicate bs.length (V.int 0)))).set ce (.lst (V.int 1 :: List.replicate bs.length (V.int 0))) = H₄ at *
  have u₅ := Sub.new (ob := .lst [V.int 0, V.int 0]) hd₄
  have ia₅ : (H₄.set d₄ (.lst [V.int 0, V.int 0])) ca = some (.lst (as.map V.int)) := u₅.il (v₄.il (s₁.il ia))
  have l7 : 0 + 1 + 1 + as.length ≤ lim := lim_small (by exact o630 hla)
  simp only [x0, x1, x2, x3, x4, x5, x6, x7, x9, x10, x11, x12, x13, x14, x15, x16, x17, x18, x19, x20, x21, x22, x23, x27, x28, x29, x30, x31, x32, x33, x34, x35, x36, x37, x38, x39, x40, x41, x42, x43, x44, x49, x50, x51, x52, x53, forR_eq, forL_eq, forE_eq, idx_eq, x54, x55, x56, x57, x58, x59, x60, x61, x62, x63, x64, x65, x66, x67, x68, x69, x70, x71, x72, x73, x74, x75, x76, x77, x78, x79, x80, x81, x82, x83, x84, x85, x86, x87, x88, x89, x90, x91, x92, yz0, yz1, yz2, yz3, Option.some.injEq, exists_eq_left', exists_eq_left, exists_and_left, V.ref.injEq, V.int.injEq, V.fn.injEq, V.bool.injEq, Ob.lst.injEq, Ob.tup.injEq, decide_eq_true_eq, decide_eq_false_iff_not, Bool.not_eq_true', Bool.not_eq_false', Bool.not_true, Bool.not_false, List.length_map, yz4, yz5, yz6, yz7, yz8, yz9, yz10, yz11, true_and, and_true, reduceCtorEq, Bool.false_eq_true, Bool.true_eq_false, if_true, if_false, false_implies, true_implies, forall_const, and_self, false_and, and_false, or_false, false_or, implies_true, Nat.reduceAdd, Nat.reduceSub, ne_eq, not_true_eq_false, not_false_eq_true, Nat.zero_le, exists_eq', exists_eq, Int.toNat_natCast, AH.set_self, List.cons.injEq, ia₅, l7]
  intro cf hcf cs hcs
  have u₆ := Sub.new (ob := .lst (V.int 0 :: V.int 0 :: as.map V.int)) hcf
  have i₆ : IL ((H₄.set d₄ (.lst [V.int 0, V.int 0])).set cf (.lst (V.int 0 :: V.int 0 :: as.map V.int))) cf (0 :: 0 :: as) := by unfold IL; rw [AH.set_self]; simp
  have v₆ := (v₄.trans u₅).trans u₆
  have i₄' := (u₅.trans u₆).il i₄
  generalize (H₄.set d₄ (.lst [V.int 0, V.int 0])).set cf (.lst (V.int 0 :: V.int 0 :: as.map V.int)) = H₆ at *
  have u₇ := Sub.new (ob := .lst [V.ref ca, V.ref cb, V.ref cd, V.ref ce, V.ref cf]) hcs
  have hsome : (H₆.set cs (.lst [V.ref ca, V.ref cb, V.ref cd, V.ref ce, V.ref cf])) cs = some (.lst ([ca, cb, cd, ce, cf].map V.ref)) := AH.set_self
  have S₇ := (s₁.trans v₆).trans u₇
  have rows : ILs (H₆.set cs (.lst [V.ref ca, V.ref cb, V.ref cd, V.ref ce, V.ref cf])) [ca, cb, cd, ce, cf] [as, bs, as ++ bs, 1 :: List.replicate bs.length 0, 0 :: 0 :: as] :=
    .cons (S₇.il ia) (.cons (S₇.il ib) (.cons (u₇.il (v₆.il i₁)) (.cons (u₇.il i₄') (.cons (u₇.il i₆) .nil))))
  generalize H₆.set cs (.lst [V.ref ca, V.ref cb, V.ref cd, V.ref ce, V.ref cf]) = H₇ at *
  have id₇ : IL H₇ cd (as ++ bs) := u₇.il (v₆.il i₁)
  have rowOk : ∀ row ∈ [as, bs, as ++ bs, 1 :: List.replicate bs.length 0, 0 :: 0 :: as], Lim base row ∧ row.length ≤ 8 := by
    intro row hrow
    simp only [List.mem_cons, List.not_mem_nil, or_false] at hrow
    rcases hrow with rfl | rfl | rfl | rfl | rfl
    · exact ⟨hLa, by exact o631 hla⟩
    · exact ⟨hLb, by exact o631 hlb⟩
    · exact ⟨hLd, hld⟩
    · refine ⟨fun d hd => ?_, by simp; exact o632 hlb⟩
      rcases List.mem_cons.mp hd with rfl | hd
      · exact o633 hbase.1
      · exact Lim.zeros (by exact o634 hbase.1) _ d hd
    · refine ⟨fun d hd => ?_, by simp; exact o635 hla⟩
      rcases List.mem_cons.mp hd with rfl | hd
      · exact o636 hbase.1
      · rcases List.mem_cons.mp hd with rfl | hd
        · exact o636 hbase.1
        · exact hLa d hd
  have hone : hor base (1 :: List.replicate bs.length 0) = base ^ bs.length := by
    have := hor_append (b := base) (ds := [1]) (es := List.replicate bs.length 0)
    rw [List.length_replicate] at this
    have e0 : hor base (List.replicate bs.length 0) = 0 := by unfold hor; rw [List.reverse_replicate, val_replicate]
    have e1 : hor base [1] = 1 := by simp [hor, val]
    rw [e0, e1] at this
    simpa using this
  have hzz : hor base (0 :: 0 :: as) = hor base as := by
    have := hor_append (b := base) (ds := [0, 0]) (es := as)
    have e1 : hor base [0, 0] = 0 := by simp [hor, val]
    rw [e1] at this
    simpa using this
  have habs : hor base (as ++ bs) = hor base as * base ^ bs.length + hor base bs := hor_append
  generalize hrs : [as, bs, as ++ bs, 1 :: List.replicate bs.length 0, 0 :: 0 :: as] = rws at rows rowOk
  have lrw : rws.length = 5 := by rw [← hrs]; rfl
  have lrefs : ([ca, cb, cd, ce, cf] : List Nat).length ≤ lim := lim_small (by simp)
  generalize hrefs : [ca, cb, cd, ce, cf] = refs at *
  subst hr
  show execsS _ (.cons (hdS (tln 7 f_law.body)) (tln 8 f_law.body)) _ _ _
  refine step_in ?_
  generalize hr : tln 8 f_law.body = rest
  have hlr : refs.length = 5 := by rw [← hrefs]; rfl
  simp only [x0, x1, x2, x3, x4, x5, x6, x7, x9, x10, x11, x12, x13, x14, x15, x16, x17, x18, x19, x20, x21, x22, x23, x27, x28, x29, x30, x31, x32, x33, x34, x35, x36, x37, x38, x39, x40, x41, x42, x43, x44, x49, x50, x51, x52, x53, forR_eq, forL_eq, forE_eq, idx_eq, x54, x55, x56, x57, x58, x59, x60, x61, x62, x63, x64, x65, x66, x67, x68, x69, x70, x71, x72, x73, x74, x75, x76, x77, x78, x79, x80, x81, x82, x83, x84, x85, x86, x87, x88, x89, x90, x91, x92, yz0, yz1, yz2, yz3, Option.some.injEq, exists_eq_left', exists_eq_left, exists_and_left, V.ref.injEq, V.int.injEq, V.fn.injEq, V.bool.injEq, Ob.lst.injEq, Ob.tup.injEq, decide_eq_true_eq, decide_eq_false_iff_not, Bool.not_eq_true', Bool.not_eq_false', Bool.not_true, Bool.not_false, List.length_map, yz4, yz5, yz6, yz7, yz8, yz9, yz10, yz11, true_and, and_true, reduceCtorEq, Bool.false_eq_true, Bool.true_eq_false, if_true, if_false, false_implies, true_implies, forall_const, and_self, false_and, and_false, or_false, false_or, implies_true, Nat.reduceAdd, Nat.reduceSub, ne_eq, not_true_eq_false, not_false_eq_true, Nat.zero_le, exists_eq', exists_eq, Int.toNat_natCast, AH.set_self, List.cons.injEq, hdS, tln, tl, f_law]
  refine cmpL_in ?_
  simp only [x0, x1, x2, x3, x4, x5, x6, x7, x9, x10, x11, x12, x13, x14, x15, x16, x17, x18, x19, x20, x21, x22, x23, x27, x28, x29, x30, x31, x32, x33, x34, x35, x36, x37, x38, x39, x40, x41, x42, x43, x44, x49, x50, x51, x52, x53, forR_eq, forL_eq, forE_eq, idx_eq, x54, x55, x56, x57, x58, x59, x60, x61, x62, x63, x64, x65, x66, x67, x68, x69, x70, x71, x72, x73, x74, x75, x76, x77, x78, x79, x80, x81, x82, x83, x84, x85, x86, x87, x88, x89, x90, x91, x92, yz0, yz1, yz2, yz3, Option.some.injEq, exists_eq_left', exists_eq_left, exists_and_left, V.ref.injEq, V.int.injEq, V.fn.injEq, V.bool.injEq, Ob.lst.injEq, Ob.tup.injEq, decide_eq_true_eq, decide_eq_false_iff_not, Bool.not_eq_true', Bool.not_eq_false', Bool.not_true, Bool.not_false, List.length_map, yz4, yz5, yz6, yz7, yz8, yz9, yz10, yz11, true_and, and_true, reduceCtorEq, Bool.false_eq_true, Bool.true_eq_false, if_true, if_false, false_implies, true_implies, forall_const, and_self, false_and, and_false, or_false, false_or, implies_true, Nat.reduceAdd, Nat.reduceSub, ne_eq, not_true_eq_false, not_false_eq_true, Nat.zero_le, exists_eq', exists_eq, Int.toNat_natCast, AH.set_self, List.cons.injEq, hsome, lrefs]
  obtain ⟨I, hI⟩ : ∃ I : Nat → List V → AH → Prop, I = fun k acc H' => ∃ ts : List Nat, acc = ts.map V.ref ∧ ILs H' ts ((rws.take k).map fun r => limbs B (hor base r)) ∧ Sub H₇ H' := ⟨_, rfl⟩
  refine compS_in I (by rw [hI]; exact ⟨[], rfl, .nil, .refl⟩) (fun k acc H' hj => ?_) (fun k v acc H' K hv hj hK => ?_) fun acc H' hj => ?_
  · rw [hI] at hj
    obtain ⟨ts, rfl, hts, hs⟩ := hj
    exact hs _ _ hsome
  · rw [hI] at hj
    obtain ⟨ts, rfl, hts, hs⟩ := hj
    rw [List.getElem?_map] at hv
    cases q : refs[k]? with
    | none => rw [q] at hv; cases hv
    | some r =>
      rw [q] at hv; cases hv
      obtain ⟨row, hrow, hir⟩ := rows.at q
      obtain ⟨hL, hl8⟩ := rowOk row (List.mem_of_getElem? hrow)
      obtain ⟨sn, sp⟩ := small_num (by exact o597 hbase.1 hbase.2) hL hl8
      try simp only [x0, x1, x2, x3, x4, x5, x6, x7, x9, x10, x11, x12, x13, x14, x15, x16, x17, x18, x19, x20, x21, x22, x23, x27, x28, x29, x30, x31, x32, x33, x34, x35, x36, x37, x38, x39, x40, x41, x42, x43, x44, x49, x50, x51, x52, x53, forR_eq, forL_eq, forE_eq, idx_eq, x54, x55, x56, x57, x58, x59, x60, x61, x62, x63, x64, x65, x66, x67, x68, x69, x70, x71, x72, x73, x74, x75, x76, x77, x78, x79, x80, x81, x82, x83, x84, x85, x86, x87, x88, x89, x90, x91, x92, yz0, yz1, yz2, yz3, Option.some.injEq, exists_eq_left', exists_eq_left, exists_and_left, V.ref.injEq, V.int.injEq, V.fn.injEq, V.bool.injEq, Ob.lst.injEq, Ob.tup.injEq, decide_eq_true_eq, decide_eq_false_iff_not, Bool.not_eq_true', Bool.not_eq_false', Bool.not_true, Bool.not_false, List.length_map, yz4, yz5, yz6, yz7, yz8, yz9, yz10, yz11, true_and, and_true, reduceCtorEq, Bool.false_eq_true, Bool.true_eq_false, if_true, if_false, false_implies, true_implies, forall_const, and_self, false_and, and_false, or_false, false_or, implies_true, Nat.reduceAdd, Nat.reduceSub, ne_eq, not_true_eq_false, not_false_eq_true, Nat.zero_le, exists_eq', exists_eq, Int.toNat_natCast, AH.set_self, List.cons.injEq]
      refine from_digits_ok (by exact o601 hn) hw (hs.il hir) hL (by exact o602 hbase.1 hbase.2) sp (by exact o637 hl8) fun c H'' hc s hf => hK _ _ ?_
      rw [hI]
      refine ⟨ts ++ [c], by simp, ?_, hs.trans s⟩
      have e : rws.take (k + 1) = rws.take k ++ [row] := by
        obtain ⟨p1, p2⟩ := List.getElem?_eq_some_iff.mp hrow
        rw [List.take_succ_eq_append_getElem p1, p2]
      rw [e, List.map_append]
      exact (hts.sub s).snoc hf
  rw [hI] at hj
  obtain ⟨ts, rfl, hts, hs₈⟩ := hj
  rw [List.length_map, List.take_of_length_le (by exact o638 lrw hlr)] at hts
  intro ct hct
  have u₈ := Sub.new (ob := .lst (ts.map V.ref)) hct
  have htold : (H'.set ct (.lst (ts.map V.ref))) ct = some (.lst (ts.map V.ref)) := AH.set_self
  have hts' := hts.sub u₈
  have S₈ := hs₈.trans u₈
  generalize H'.set ct (.lst (ts.map V.ref)) = H₈ at *
  subst hr
  show execsS _ (.cons (hdS (tln 8 f_law.body)) (tln 9 f_law.body)) _ _ _
  refine step_in ?_
  generalize hr : tln 9 f_law.body = rest
  have hsome₈ := S₈ _ _ hsome
  simp only [x0, x1, x2, x3, x4, x5, x6, x7, x9, x10, x11, x12, x13, x14, x15, x16, x17, x18, x19, x20, x21, x22, x23, x27, x28, x29, x30, x31, x32, x33, x34, x35, x36, x37, x38, x39, x40, x41, x42, x43, x44, x49, x50, x51, x52, x53, forR_eq, forL_eq, forE_eq, idx_eq, x54, x55, x56, x57, x58, x59, x60, x61, x62, x63, x64, x65, x66, x67, x68, x69, x70, x71, x72, x73, x74, x75, x76, x77, x78, x79, x80, x81, x82, x83, x84, x85, x86, x87, x88, x89, x90, x91, x92, yz0, yz1, yz2, yz3, Option.some.injEq, exists_eq_left', exists_eq_left, exists_and_left, V.ref.injEq, V.int.injEq, V.fn.injEq, V.bool.injEq, Ob.lst.injEq, Ob.tup.injEq, decide_eq_true_eq, decide_eq_false_iff_not, Bool.not_eq_true', Bool.not_eq_false', Bool.not_true, Bool.not_false, List.length_map, yz4, yz5, yz6, yz7, yz8, yz9, yz10, yz11, true_and, and_true, reduceCtorEq, Bool.false_eq_true, Bool.true_eq_false, if_true, if_false, false_implies, true_implies, forall_const, and_self, false_and, and_false, or_false, false_or, implies_true, Nat.reduceAdd, Nat.reduceSub, ne_eq, not_true_eq_false, not_false_eq_true, Nat.zero_le, exists_eq', exists_eq, Int.toNat_natCast, AH.set_self, List.cons.injEq, hdS, tln, tl, f_law]
  refine cmpL_in ?_
  simp only [x0, x1, x2, x3, x4, x5, x6, x7, x9, x10, x11, x12, x13, x14, x15, x16, x17, x18, x19, x20, x21, x22, x23, x27, x28, x29, x30, x31, x32, x33, x34, x35, x36, x37, x38, x39, x40, x41, x42, x43, x44, x49, x50, x51, x52, x53, forR_eq, forL_eq, forE_eq, idx_eq, x54, x55, x56, x57, x58, x59, x60, x61, x62, x63, x64, x65, x66, x67, x68, x69, x70, x71, x72, x73, x74, x75, x76, x77, x78, x79, x80, x81, x82, x83, x84, x85, x86, x87, x88, x89, x90, x91, x92, yz0, yz1, yz2, yz3, Option.some.injEq, exists_eq_left', exists_eq_left, exists_and_left, V.ref.injEq, V.int.injEq, V.fn.injEq, V.bool.injEq, Ob.lst.injEq, Ob.tup.injEq, decide_eq_true_eq, decide_eq_false_iff_not, Bool.not_eq_true', Bool.not_eq_false', Bool.not_true, Bool.not_false, List.length_map, yz4, yz5, yz6, yz7, yz8, yz9, yz10, yz11, true_and, and_true, reduceCtorEq, Bool.false_eq_true, Bool.true_eq_false, if_true, if_false, false_implies, true_implies, forall_const, and_self, false_and, and_false, or_false, false_or, implies_true, Nat.reduceAdd, Nat.reduceSub, ne_eq, not_true_eq_false, not_false_eq_true, Nat.zero_le, exists_eq', exists_eq, Int.toNat_natCast, AH.set_self, List.cons.injEq, hsome₈, lrefs]
  obtain ⟨J, hJ⟩ : ∃ J : Nat → List V → AH → Prop, J = fun k acc H' => ∃ us : List Nat, acc = us.map V.ref ∧ ILs H' us ((rws.take k).map fun r => limbs B (hor base r)) ∧ Sub H₈ H' := ⟨_, rfl⟩
  refine compS_in J (by rw [hJ]; exact ⟨[], rfl, .nil, .refl⟩) (fun k acc H' hj => ?_) (fun k v acc H' K hv hj hK => ?_) fun acc H' hj => ?_
  · rw [hJ] at hj
    obtain ⟨us, rfl, hus, hs⟩ := hj
    exact hs _ _ hsome₈
  · rw [hJ] at hj
    obtain ⟨us, rfl, hus, hs⟩ := hj
    rw [List.getElem?_map] at hv
    cases q : refs[k]? with
    | none => rw [q] at hv; cases hv
    | some r =>
      rw [q] at hv; cases hv
      obtain ⟨row, hrow, hir⟩ := (rows.sub S₈).at q
      obtain ⟨hL, hl8⟩ := rowOk row (List.mem_of_getElem? hrow)
      obtain ⟨sn, sp⟩ := small_num (by exact o597 hbase.1 hbase.2) hL hl8
      try simp only [x0, x1, x2, x3, x4, x5, x6, x7, x9, x10, x11, x12, x13, x14, x15, x16, x17, x18, x19, x20, x21, x22, x23, x27, x28, x29, x30, x31, x32, x33, x34, x35, x36, x37, x38, x39, x40, x41, x42, x43, x44, x49, x50, x51, x52, x53, forR_eq, forL_eq, forE_eq, idx_eq, x54, x55, x56, x57, x58, x59, x60, x61, x62, x63, x64, x65, x66, x67, x68, x69, x70, x71, x72, x73, x74, x75, x76, x77, x78, x79, x80, x81, x82, x83, x84, x85, x86, x87, x88, x89, x90, x91, x92, yz0, yz1, yz2, yz3, Option.some.injEq, exists_eq_left', exists_eq_left, exists_and_left, V.ref.injEq, V.int.injEq, V.fn.injEq, V.bool.injEq, Ob.lst.injEq, Ob.tup.injEq, decide_eq_true_eq, decide_eq_false_iff_not, Bool.not_eq_true', Bool.not_eq_false', Bool.not_true, Bool.not_false, List.length_map, yz4, yz5, yz6, yz7, yz8, yz9, yz10, yz11, true_and, and_true, reduceCtorEq, Bool.false_eq_true, Bool.true_eq_false, if_true, if_false, false_implies, true_implies, forall_const, and_self, false_and, and_false, or_false, false_or, implies_true, Nat.reduceAdd, Nat.reduceSub, ne_eq, not_true_eq_false, not_false_eq_true, Nat.zero_le, exists_eq', exists_eq, Int.toNat_natCast, AH.set_self, List.cons.injEq]
      refine placed_ok (by exact o603 hn) (hs.il hir) (fun d hd => by have := hL d hd; exact o624 hbase.2 this.1 this.2) (by exact o625 hbase.1) sp (by exact o598 hl8) fun G₁ g₁ => ?_
      refine law_limbs_ok (by exact o603 hn) hw sn.1 (by exact o448 sn.2) fun c H'' hc s hf => hK _ _ ?_
      rw [hJ]
      refine ⟨us ++ [c], by simp, ?_, (hs.trans g₁).trans s⟩
      have e : rws.take (k + 1) = rws.take k ++ [row] := by
        obtain ⟨p1, p2⟩ := List.getElem?_eq_some_iff.mp hrow
        rw [List.take_succ_eq_append_getElem p1, p2]
      rw [e, List.map_append]
      exact ((hus.sub g₁).sub s).snoc hf
  rw [hJ] at hj
  obtain ⟨us, rfl, hus, hs₉⟩ := hj
  rw [List.length_map, List.take_of_length_le (by exact o638 lrw hlr)] at hus
  intro cu hcu
  have u₉ := Sub.new (ob := .lst (us.map V.ref)) hcu
  refine ne_rows ⟨ts, (hs₉.trans u₉) _ _ htold, (hts'.sub hs₉).sub u₉⟩ ⟨us, AH.set_self, hus.sub u₉⟩ ?_
  have S₉ := hs₉.trans u₉
  generalize H'.set cu (.lst (us.map V.ref)) = H₉ at *
  have hts₉ := hts'.sub S₉
  have htold₉ := S₉ _ _ htold
  have ltn : ts.length = 5 := by rw [hts.len, List.length_map, lrw]
  have lts := lim_small (show ts.length ≤ 1000 by exact o639 ltn)
  rw [← hrs] at hts₉
  simp only [List.map_cons, List.map_nil] at hts₉
  cases hts₉ with
  | @cons t₀ r₀ _ _ k₀ hts₉ =>
  cases hts₉ with
  | @cons t₁ r₁ _ _ k₁ hts₉ =>
  cases hts₉ with
  | @cons t₂ r₂ _ _ k₂ hts₉ =>
  cases hts₉ with
  | @cons t₃ r₃ _ _ k₃ hts₉ =>
  cases hts₉ with
  | @cons t₄ r₄ _ _ k₄ hts₉ =>
  cases hts₉
  try simp only [x0, x1, x2, x3, x4, x5, x6, x7, x9, x10, x11, x12, x13, x14, x15, x16, x17, x18, x19, x20, x21, x22, x23, x27, x28, x29, x30, x31, x32, x33, x34, x35, x36, x37, x38, x39, x40, x41, x42, x43, x44, x49, x50, x51, x52, x53, forR_eq, forL_eq, forE_eq, idx_eq, x54, x55, x56, x57, x58, x59, x60, x61, x62, x63, x64, x65, x66, x67, x68, x69, x70, x71, x72, x73, x74, x75, x76, x77, x78, x79, x80, x81, x82, x83, x84, x85, x86, x87, x88, x89, x90, x91, x92, yz0, yz1, yz2, yz3, Option.some.injEq, exists_eq_left', exists_eq_left, exists_and_left, V.ref.injEq, V.int.injEq, V.fn.injEq, V.bool.injEq, Ob.lst.injEq, Ob.tup.injEq, decide_eq_true_eq, decide_eq_false_iff_not, Bool.not_eq_true', Bool.not_eq_false', Bool.not_true, Bool.not_false, List.length_map, yz4, yz5, yz6, yz7, yz8, yz9, yz10, yz11, true_and, and_true, reduceCtorEq, Bool.false_eq_true, Bool.true_eq_false, if_true, if_false, false_implies, true_implies, forall_const, and_self, false_and, and_false, or_false, false_or, implies_true, Nat.reduceAdd, Nat.reduceSub, ne_eq, not_true_eq_false, not_false_eq_true, Nat.zero_le, exists_eq', exists_eq, Int.toNat_natCast, AH.set_self, List.cons.injEq]
  subst hr
  show execsS _ (.cons (hdS (tln 9 f_law.body)) (tln 10 f_law.body)) _ _ _
  refine step_in ?_
  generalize hr : tln 10 f_law.body = rest
  simp only [x0, x1, x2, x3, x4, x5, x6, x7, x9, x10, x11, x12, x13, x14, x15, x16, x17, x18, x19, x20, x21, x22, x23, x27, x28, x29, x30, x31, x32, x33, x34, x35, x36, x37, x38, x39, x40, x41, x42, x43, x44, x49, x50, x51, x52, x53, forR_eq, forL_eq, forE_eq, idx_eq, x54, x55, x56, x57, x58, x59, x60, x61, x62, x63, x64, x65, x66, x67, x68, x69, x70, x71, x72, x73, x74, x75, x76, x77, x78, x79, x80, x81, x82, x83, x84, x85, x86, x87, x88, x89, x90, x91, x92, yz0, yz1, yz2, yz3, Option.some.injEq, exists_eq_left', exists_eq_left, exists_and_left, V.ref.injEq, V.int.injEq, V.fn.injEq, V.bool.injEq, Ob.lst.injEq, Ob.tup.injEq, decide_eq_true_eq, decide_eq_false_iff_not, Bool.not_eq_true', Bool.not_eq_false', Bool.not_true, Bool.not_false, List.length_map, yz4, yz5, yz6, yz7, yz8, yz9, yz10, yz11, true_and, and_true, reduceCtorEq, Bool.false_eq_true, Bool.true_eq_false, if_true, if_false, false_implies, true_implies, forall_const, and_self, false_and, and_false, or_false, false_or, implies_true, Nat.reduceAdd, Nat.reduceSub, ne_eq, not_true_eq_false, not_false_eq_true, Nat.zero_le, exists_eq', exists_eq, Int.toNat_natCast, AH.set_self, List.cons.injEq, hdS, tln, tl, f_law]
  refine idx_natR 2 htold₉ lts rfl rfl ?_
  try simp only [x0, x1, x2, x3, x4, x5, x6, x7, x9, x10, x11, x12, x13, x14, x15, x16, x17, x18, x19, x20, x21, x22, x23, x27, x28, x29, x30, x31, x32, x33, x34, x35, x36, x37, x38, x39, x40, x41, x42, x43, x44, x49, x50, x51, x52, x53, forR_eq, forL_eq, forE_eq, idx_eq, x54, x55, x56, x57, x58, x59, x60, x61, x62, x63, x64, x65, x66, x67, x68, x69, x70, x71, x72, x73, x74, x75, x76, x77, x78, x79, x80, x81, x82, x83, x84, x85, x86, x87, x88, x89, x90, x91, x92, yz0, yz1, yz2, yz3, Option.some.injEq, exists_eq_left', exists_eq_left, exists_and_left, V.ref.injEq, V.int.injEq, V.fn.injEq, V.bool.injEq, Ob.lst.injEq, Ob.tup.injEq, decide_eq_true_eq, decide_eq_false_iff_not, Bool.not_eq_true', Bool.not_eq_false', Bool.not_true, Bool.not_false, List.length_map, yz4, yz5, yz6, yz7, yz8, yz9, yz10, yz11, true_and, and_true, reduceCtorEq, Bool.false_eq_true, Bool.true_eq_false, if_true, if_false, false_implies, true_implies, forall_const, and_self, false_and, and_false, or_false, false_or, implies_true, Nat.reduceAdd, Nat.reduceSub, ne_eq, not_true_eq_false, not_false_eq_true, Nat.zero_le, exists_eq', exists_eq, Int.toNat_natCast, AH.set_self, List.cons.injEq]
  subst hr
  show execsS _ (.cons (hdS (tln 10 f_law.body)) (tln 11 f_law.body)) _ _ _
  refine step_in ?_
  generalize hr : tln 11 f_law.body = rest
  simp only [x0, x1, x2, x3, x4, x5, x6, x7, x9, x10, x11, x12, x13, x14, x15, x16, x17, x18, x19, x20, x21, x22, x23, x27, x28, x29, x30, x31, x32, x33, x34, x35, x36, x37, x38, x39, x40, x41, x42, x43, x44, x49, x50, x51, x52, x53, forR_eq, forL_eq, forE_eq, idx_eq, x54, x55, x56, x57, x58, x59, x60, x61, x62, x63, x64, x65, x66, x67, x68, x69, x70, x71, x72, x73, x74, x75, x76, x77, x78, x79, x80, x81, x82, x83, x84, x85, x86, x87, x88, x89, x90, x91, x92, yz0, yz1, yz2, yz3, Option.some.injEq, exists_eq_left', exists_eq_left, exists_and_left, V.ref.injEq, V.int.injEq, V.fn.injEq, V.bool.injEq, Ob.lst.injEq, Ob.tup.injEq, decide_eq_true_eq, decide_eq_false_iff_not, Bool.not_eq_true', Bool.not_eq_false', Bool.not_true, Bool.not_false, List.length_map, yz4, yz5, yz6, yz7, yz8, yz9, yz10, yz11, true_and, and_true, reduceCtorEq, Bool.false_eq_true, Bool.true_eq_false, if_true, if_false, false_implies, true_implies, forall_const, and_self, false_and, and_false, or_false, false_or, implies_true, Nat.reduceAdd, Nat.reduceSub, ne_eq, not_true_eq_false, not_false_eq_true, Nat.zero_le, exists_eq', exists_eq, Int.toNat_natCast, AH.set_self, List.cons.injEq, hdS, tln, tl, f_law]
  refine idx_natR 0 htold₉ lts rfl rfl (idx_natR 3 htold₉ lts rfl rfl ?_)
  obtain ⟨na, -⟩ := small_num (by exact o597 hbase.1 hbase.2) hLa (by exact o631 hla)
  obtain ⟨nb, pb⟩ := small_num (by exact o597 hbase.1 hbase.2) hLb (by exact o631 hlb)
  obtain ⟨nd, -⟩ := small_num (by exact o597 hbase.1 hbase.2) hLd hld
  rw [hone] at k₃
  rw [hzz] at k₄
  have pb0 : (0 : Int) < base ^ bs.length := Int.pow_pos (by exact o634 hbase.1)
  have nm := Int.mul_nonneg na.1 (Int.le_of_lt pb0)
  refine mul_school_ok (by exact o609 hn) hw k₀ k₃ (by exact o423 na.1 na.2) (by exact o516 pb pb0) fun e₁ E₁ he₁ w₁ f₁ => ?_
  refine idx_natR 1 (w₁ _ _ htold₉) lts rfl rfl ?_
  refine add_ok (by exact o603 hn) hw f₁ (w₁.il k₁) (by exact o640 habs nb.1 nd.2 nm) (by exact o423 nb.1 nb.2) fun e₂ E₂ he₂ w₂ f₂ => ?_
  rw [← habs] at f₂
  have W := w₁.trans w₂
  refine ne_same f₂ (W.il k₂) ?_
  try simp only [x0, x1, x2, x3, x4, x5, x6, x7, x9, x10, x11, x12, x13, x14, x15, x16, x17, x18, x19, x20, x21, x22, x23, x27, x28, x29, x30, x31, x32, x33, x34, x35, x36, x37, x38, x39, x40, x41, x42, x43, x44, x49, x50, x51, x52, x53, forR_eq, forL_eq, forE_eq, idx_eq, x54, x55, x56, x57, x58, x59, x60, x61, x62, x63, x64, x65, x66, x67, x68, x69, x70, x71, x72, x73, x74, x75, x76, x77, x78, x79, x80, x81, x82, x83, x84, x85, x86, x87, x88, x89, x90, x91, x92, yz0, yz1, yz2, yz3, Option.some.injEq, exists_eq_left', exists_eq_left, exists_and_left, V.ref.injEq, V.int.injEq, V.fn.injEq, V.bool.injEq, Ob.lst.injEq, Ob.tup.injEq, decide_eq_true_eq, decide_eq_false_iff_not, Bool.not_eq_true', Bool.not_eq_false', Bool.not_true, Bool.not_false, List.length_map, yz4, yz5, yz6, yz7, yz8, yz9, yz10, yz11, true_and, and_true, reduceCtorEq, Bool.false_eq_true, Bool.true_eq_false, if_true, if_false, false_implies, true_implies, forall_const, and_self, false_and, and_false, or_false, false_or, implies_true, Nat.reduceAdd, Nat.reduceSub, ne_eq, not_true_eq_false, not_false_eq_true, Nat.zero_le, exists_eq', exists_eq, Int.toNat_natCast, AH.set_self, List.cons.injEq]
  refine idx_natR 4 (W _ _ htold₉) lts rfl rfl (idx_natR 0 (W _ _ htold₉) lts rfl rfl ?_)
  refine ne_same (W.il k₄) (W.il k₀) ?_
  try simp only [x0, x1, x2, x3, x4, x5, x6, x7, x9, x10, x11, x12, x13, x14, x15, x16, x17, x18, x19, x20, x21, x22, x23, x27, x28, x29, x30, x31, x32, x33, x34, x35, x36, x37, x38, x39, x40, x41, x42, x43, x44, x49, x50, x51, x52, x53, forR_eq, forL_eq, forE_eq, idx_eq, x54, x55, x56, x57, x58, x59, x60, x61, x62, x63, x64, x65, x66, x67, x68, x69, x70, x71, x72, x73, x74, x75, x76, x77, x78, x79, x80, x81, x82, x83, x84, x85, x86, x87, x88, x89, x90, x91, x92, yz0, yz1, yz2, yz3, Option.some.injEq, exists_eq_left', exists_eq_left, exists_and_left, V.ref.injEq, V.int.injEq, V.fn.injEq, V.bool.injEq, Ob.lst.injEq, Ob.tup.injEq, decide_eq_true_eq, decide_eq_false_iff_not, Bool.not_eq_true', Bool.not_eq_false', Bool.not_true, Bool.not_false, List.length_map, yz4, yz5, yz6, yz7, yz8, yz9, yz10, yz11, true_and, and_true, reduceCtorEq, Bool.false_eq_true, Bool.true_eq_false, if_true, if_false, false_implies, true_implies, forall_const, and_self, false_and, and_false, or_false, false_or, implies_true, Nat.reduceAdd, Nat.reduceSub, ne_eq, not_true_eq_false, not_false_eq_true, Nat.zero_le, exists_eq', exists_eq, Int.toNat_natCast, AH.set_self, List.cons.injEq]
  subst hr
  have SS := ((S₇.trans S₈).trans S₉).trans W
  exact law_tail hn hw hbase hmany hthird hLa hLb hla hlb (SS.il ia) (SS.il ib) (((S₈.trans S₉).trans W).il id₇) (W.il k₂)
end Mine
end
section
open PySem PySem.Calls PySem.W PyProof.Rows
set_option maxRecDepth 100000
namespace Mine
variable {B : Int} {Φ : Phi}
structure St (H : AH) (bd p : Nat) (pegs : List Int) (k : Int) : Prop where
  brd : Bd H bd p k
  pgs : IL H p pegs
  ne : p ≠ bd
  k0 : 0 ≤ k
theorem St.next {H : AH} {bd p : Nat} {pegs : List Int} {k : Int} (s : St H bd p pegs k) : St (H.set bd (.lst [V.int (k + 1), V.ref p])) bd p pegs (k + 1) :=
  ⟨AH.set_self, by show (H.set bd _) p = _; rw [AH.set_ne s.ne]; exact s.pgs, s.ne, by have := s.k0; exact o43 this⟩
theorem St.sub {H H' : AH} {bd p : Nat} {pegs : List Int} {k : Int} (s : St H bd p pegs k) (h : Sub H H') : St H' bd p pegs k := ⟨h _ _ s.brd, h.il s.pgs, s.ne, s.k0⟩
theorem peg_st {n : Nat} (hn : 1 ≤ n) {H : AH} {bd p : Nat} {k many : Int} {pegs : List Int} {Q : PQ} (s : St H bd p pegs k) (hk : k ≤ 10000) (hl : pegs.length ≤ 1000) (hm : 0 < many)
    (h : ∀ r H', 0 ≤ r → r < many → St H' bd p pegs (k + 1) → SubBut bd H H' → Q (.int r) H') : callS theDefs n 28 [.ref bd, .int many] H Q :=
  peg_ok hn s.brd s.pgs s.ne ⟨s.k0, hk⟩ hl hm fun r r0 r1 => h r _ r0 r1 s.next (SubBut.set fun _ _ _ e => e)
theorem pegs_row {n : Nat} (hn : 1 ≤ n) {H : AH} {bd p : Nat} {k base cnt : Int} {pegs : List Int} (s : St H bd p pegs k) (hk : k ≤ 5000) (hl : pegs.length ≤ 1000) (hb : 0 < base) (hc : 0 ≤ cnt ∧ cnt < 5) {Q : List V → AH → Prop} {el : V → AH → PQ → Prop}
    (hel : ∀ v H K, callS theDefs n 28 [.ref bd, .int base] H K → el v H K)
    (h : ∀ ts H' k', ts.length ≤ 4 → Lim base ts → St H' bd p pegs k' → k' ≤ k + 5 → SubBut bd H H' → Q (ts.map V.int) H') : compS el (fun _ => True) (rangeVs 0 cnt 1) [] H Q := by
  have hrl : rangeLen 0 cnt 1 = cnt.toNat := by rw [rangeLen_up]; exact o641
  have hvl : (rangeVs 0 cnt 1).length = cnt.toNat := by unfold rangeVs; rw [List.length_map, List.length_range, hrl]
  obtain ⟨I, hI⟩ : ∃ I : Nat → List V → AH → Prop, I = fun j acc H' => ∃ (ts : List Int), acc = ts.map V.int ∧ ts.length = j ∧ j ≤ 4 ∧ Lim base ts ∧ St H' bd p pegs (k + (j : Int)) ∧ SubBut bd H H' := ⟨_, rfl⟩
  refine compS_in I (by rw [hI]; exact ⟨[], rfl, rfl, by exact o642, .nil, by simpa using s, fun _ _ _ e => e⟩) (fun _ _ _ _ => trivial) (fun j v acc H' K hv hj hK => ?_) fun acc H' hj => ?_
  · rw [hI] at hj
    obtain ⟨ts, rfl, htl, hj4, hL, hs, hsb⟩ := hj
    have hjl := (List.getElem?_eq_some_iff.mp hv).1
    rw [hvl] at hjl
    refine hel _ _ _ (peg_st hn hs (by exact o643 hk hj4) hl hb fun r H'' r0 r1 hs' hsb' => hK _ _ ?_)
    rw [hI]
    refine ⟨ts ++ [r], by simp, by simp [htl], by exact o644 hc.2 hjl, hL.append (.one ⟨r0, r1⟩), ?_, hsb.trans hsb'⟩
    rw [show k + ((j + 1 : Nat) : Int) = k + (j : Int) + 1 by exact o645]; exact hs'
  · rw [hI] at hj
    obtain ⟨ts, rfl, htl, hj4, hL, hs, hsb⟩ := hj
    rw [hvl] at htl hj4 hs
    exact h ts H' _ (by exact o646 htl hj4) hL hs (by exact o647 hj4) hsb
theorem law_true : LawTrue := by
  intro a ns hns
  refine call_of (by exact o648) rfl rfl ?_
  show execsS (callS theDefs 599) (tln 0 f_law.body) [some (.ref a), none, none, none, none, none, none, none, none, none, none, none, none, none, none] (aH a ns) LK
  have haH : aH a ns a = some (.fro (ns.map V.int)) := by unfold aH; rw [if_pos rfl]
  have lns := lim_small (show ns.length ≤ 1000 by exact o649 hns)
  have l2 : 0 + 1 + 1 ≤ lim := lim_small (by exact o627)
  have l3 : 0 + 1 + 1 + 1 ≤ lim := lim_small (by exact o650)
  show execsS _ (.cons (hdS (tln 0 f_law.body)) (tln 1 f_law.body)) _ _ _
  refine step_in ?_
  generalize hr : tln 1 f_law.body = rest
  simp only [x0, x1, x2, x3, x4, x5, x6, x7, x9, x10, x11, x12, x13, x14, x15, x16, x17, x18, x19, x20, x21, x22, x23, x27, x28, x29, x30, x31, x32, x33, x34, x35, x36, x37, x38, x39, x40, x41, x42, x43, x44, x49, x50, x51, x52, x53, forR_eq, forL_eq, forE_eq, idx_eq, x54, x55, x56, x57, x58, x59, x60, x61, x62, x63, x64, x65, x66, x67, x68, x69, x70, x71, x72, x73, x74, x75, x76, x77, x78, x79, x80, x81, x82, x83, x84, x85, x86, x87, x88, x89, x90, x91, x92, yz0, yz1, yz2, yz3, Option.some.injEq, exists_eq_left', exists_eq_left, exists_and_left, V.ref.injEq, V.int.injEq, V.fn.injEq, V.bool.injEq, Ob.lst.injEq, Ob.tup.injEq, decide_eq_true_eq, decide_eq_false_iff_not, Bool.not_eq_true', Bool.not_eq_false', Bool.not_true, Bool.not_false, List.length_map, yz4, yz5, yz6, yz7, yz8, yz9, yz10, yz11, true_and, and_true, reduceCtorEq, Bool.false_eq_true, Bool.true_eq_false, if_true, if_false, false_implies, true_implies, forall_const, and_self, false_and, and_false, or_false, false_or, implies_true, Nat.reduceAdd, Nat.reduceSub, ne_eq, not_true_eq_false, not_false_eq_true, Nat.zero_le, exists_eq', exists_eq, Int.toNat_natCast, AH.set_self, List.cons.injEq, hdS, tln, tl, f_law, l2]
  refine cmpL_in ?_
  try simp only [x0, x1, x2, x3, x4, x5, x6, x7, x9, x10, x11, x12, x13, x14, x15, x16, x17, x18, x19, x20, x21, x22, x23, x27, x28, x29, x30, x31, x32, x33, x34, x35, x36, x37, x38, x39, x40, x41, x42, x43, x44, x49, x50, x51, x52, x53, forR_eq, forL_eq, forE_eq, idx_eq, x54, x55, x56, x57, x58, x59, x60, x61, x62, x63, x64, x65, x66, x67, x68, x69, x70, x71, x72, x73, x74, x75, x76, x77, x78, x79, x80, x81, x82, x83, x84, x85, x86, x87, x88, x89, x90, x91, x92, yz0, yz1, yz2, yz3, Option.some.injEq, exists_eq_left', exists_eq_left, exists_and_left, V.ref.injEq, V.int.injEq, V.fn.injEq, V.bool.injEq, Ob.lst.injEq, Ob.tup.injEq, decide_eq_true_eq, decide_eq_false_iff_not, Bool.not_eq_true', Bool.not_eq_false', Bool.not_true, Bool.not_false, List.length_map, yz4, yz5, yz6, yz7, yz8, yz9, yz10, yz11, true_and, and_true, reduceCtorEq, Bool.false_eq_true, Bool.true_eq_false, if_true, if_false, false_implies, true_implies, forall_const, and_self, false_and, and_false, or_false, false_or, implies_true, Nat.reduceAdd, Nat.reduceSub, ne_eq, not_true_eq_false, not_false_eq_true, Nat.zero_le, exists_eq', exists_eq, Int.toNat_natCast, AH.set_self, List.cons.injEq]
  refine ⟨ns.map V.int, .inr haH, by simpa using lns, fun c₁ hc₁ => ?_⟩
  have htk : (List.take ((some (15 : Int)).elim (ns.map V.int).length (clipAt (ns.map V.int).length) - (none : Option Int).elim 0 (clipAt (ns.map V.int).length)) (List.drop ((none : Option Int).elim 0 (clipAt (ns.map V.int).length)) (ns.map V.int))) = ((ns.drop ((none : Option Int).elim 0 (clipAt (ns.map V.int).length))).take ((some (15 : Int)).elim (ns.map V.int).length (clipAt (ns.map V.int).length) - (none : Option Int).elim 0 (clipAt (ns.map V.int).length))).map V.int := by
    rw [List.map_take, List.map_drop]
  rw [htk]
  have hxl : ((ns.drop ((none : Option Int).elim 0 (clipAt (ns.map V.int).length))).take ((some (15 : Int)).elim (ns.map V.int).length (clipAt (ns.map V.int).length) - (none : Option Int).elim 0 (clipAt (ns.map V.int).length))).length ≤ 63 := by
    rw [List.length_take, List.length_drop]; exact o651 hns
  generalize (ns.drop ((none : Option Int).elim 0 (clipAt (ns.map V.int).length))).take ((some (15 : Int)).elim (ns.map V.int).length (clipAt (ns.map V.int).length) - (none : Option Int).elim 0 (clipAt (ns.map V.int).length)) = xs at *
  have hx₁ : ((aH a ns).set c₁ (.lst (xs.map V.int))) c₁ = some (.lst (xs.map V.int)) := AH.set_self
  generalize (aH a ns).set c₁ (.lst (xs.map V.int)) = H₁ at *
  have lxs := lim_small (show xs.length ≤ 1000 by exact o649 hxl)
  simp only [x0, x1, x2, x3, x4, x5, x6, x7, x9, x10, x11, x12, x13, x14, x15, x16, x17, x18, x19, x20, x21, x22, x23, x27, x28, x29, x30, x31, x32, x33, x34, x35, x36, x37, x38, x39, x40, x41, x42, x43, x44, x49, x50, x51, x52, x53, forR_eq, forL_eq, forE_eq, idx_eq, x54, x55, x56, x57, x58, x59, x60, x61, x62, x63, x64, x65, x66, x67, x68, x69, x70, x71, x72, x73, x74, x75, x76, x77, x78, x79, x80, x81, x82, x83, x84, x85, x86, x87, x88, x89, x90, x91, x92, yz0, yz1, yz2, yz3, Option.some.injEq, exists_eq_left', exists_eq_left, exists_and_left, V.ref.injEq, V.int.injEq, V.fn.injEq, V.bool.injEq, Ob.lst.injEq, Ob.tup.injEq, decide_eq_true_eq, decide_eq_false_iff_not, Bool.not_eq_true', Bool.not_eq_false', Bool.not_true, Bool.not_false, List.length_map, yz4, yz5, yz6, yz7, yz8, yz9, yz10, yz11, true_and, and_true, reduceCtorEq, Bool.false_eq_true, Bool.true_eq_false, if_true, if_false, false_implies, true_implies, forall_const, and_self, false_and, and_false, or_false, false_or, implies_true, Nat.reduceAdd, Nat.reduceSub, ne_eq, not_true_eq_false, not_false_eq_true, Nat.zero_le, exists_eq', exists_eq, Int.toNat_natCast, AH.set_self, List.cons.injEq, hx₁, lxs]
  obtain ⟨I, hI⟩ : ∃ I : Nat → List V → AH → Prop, I = fun j acc H' => ∃ (ts : List Int), acc = ts.map V.int ∧ ts.length = j ∧ H₁ = H' := ⟨_, rfl⟩
  refine compS_in I (by rw [hI]; exact ⟨[], rfl, rfl, rfl⟩) (fun j acc H' hj => ?_) (fun j v acc H' K hv hj hK => ?_) fun acc H' hj => ?_
  · rw [hI] at hj
    obtain ⟨ts, rfl, htl, rfl⟩ := hj
    exact hx₁
  · rw [hI] at hj
    obtain ⟨ts, rfl, htl, rfl⟩ := hj
    rw [List.getElem?_map] at hv
    cases q : xs[j]? with
    | none => rw [q] at hv; cases hv
    | some y =>
      rw [q] at hv; cases hv
      try simp only [x0, x1, x2, x3, x4, x5, x6, x7, x9, x10, x11, x12, x13, x14, x15, x16, x17, x18, x19, x20, x21, x22, x23, x27, x28, x29, x30, x31, x32, x33, x34, x35, x36, x37, x38, x39, x40, x41, x42, x43, x44, x49, x50, x51, x52, x53, forR_eq, forL_eq, forE_eq, idx_eq, x54, x55, x56, x57, x58, x59, x60, x61, x62, x63, x64, x65, x66, x67, x68, x69, x70, x71, x72, x73, x74, x75, x76, x77, x78, x79, x80, x81, x82, x83, x84, x85, x86, x87, x88, x89, x90, x91, x92, yz0, yz1, yz2, yz3, Option.some.injEq, exists_eq_left', exists_eq_left, exists_and_left, V.ref.injEq, V.int.injEq, V.fn.injEq, V.bool.injEq, Ob.lst.injEq, Ob.tup.injEq, decide_eq_true_eq, decide_eq_false_iff_not, Bool.not_eq_true', Bool.not_eq_false', Bool.not_true, Bool.not_false, List.length_map, yz4, yz5, yz6, yz7, yz8, yz9, yz10, yz11, true_and, and_true, reduceCtorEq, Bool.false_eq_true, Bool.true_eq_false, if_true, if_false, false_implies, true_implies, forall_const, and_self, false_and, and_false, or_false, false_or, implies_true, Nat.reduceAdd, Nat.reduceSub, ne_eq, not_true_eq_false, not_false_eq_true, Nat.zero_le, exists_eq', exists_eq, Int.toNat_natCast, AH.set_self, List.cons.injEq]
      refine hK _ _ ?_
      rw [hI]
      exact ⟨ts ++ [if y < 0 then -y else y], by simp, by simp [htl], rfl⟩
  rw [hI] at hj
  obtain ⟨pegs, rfl, hpl, rfl⟩ := hj
  rw [List.length_map] at hpl
  intro p hp bd hbd
  have hne : p ≠ bd := fun q => by rw [← q, AH.set_self] at hbd; cases hbd
  have st : St ((H₁.set p (.lst (pegs.map V.int))).set bd (.lst [V.int 0, V.ref p])) bd p pegs 0 := ⟨AH.set_self, (Sub.new hbd).il il_set, hne, by exact o271⟩
  generalize (H₁.set p (.lst (pegs.map V.int))).set bd (.lst [V.int 0, V.ref p]) = H₂ at *
  have hpl' : pegs.length ≤ 1000 := by exact o652 hxl hpl
  subst hr
  show execsS _ (.cons (hdS (tln 1 f_law.body)) (tln 2 f_law.body)) _ _ _
  refine step_in ?_
  generalize hr : tln 2 f_law.body = rest
  simp only [x0, x1, x2, x3, x4, x5, x6, x7, x9, x10, x11, x12, x13, x14, x15, x16, x17, x18, x19, x20, x21, x22, x23, x27, x28, x29, x30, x31, x32, x33, x34, x35, x36, x37, x38, x39, x40, x41, x42, x43, x44, x49, x50, x51, x52, x53, forR_eq, forL_eq, forE_eq, idx_eq, x54, x55, x56, x57, x58, x59, x60, x61, x62, x63, x64, x65, x66, x67, x68, x69, x70, x71, x72, x73, x74, x75, x76, x77, x78, x79, x80, x81, x82, x83, x84, x85, x86, x87, x88, x89, x90, x91, x92, yz0, yz1, yz2, yz3, Option.some.injEq, exists_eq_left', exists_eq_left, exists_and_left, V.ref.injEq, V.int.injEq, V.fn.injEq, V.bool.injEq, Ob.lst.injEq, Ob.tup.injEq, decide_eq_true_eq, decide_eq_false_iff_not, Bool.not_eq_true', Bool.not_eq_false', Bool.not_true, Bool.not_false, List.length_map, yz4, yz5, yz6, yz7, yz8, yz9, yz10, yz11, true_and, and_true, reduceCtorEq, Bool.false_eq_true, Bool.true_eq_false, if_true, if_false, false_implies, true_implies, forall_const, and_self, false_and, and_false, or_false, false_or, implies_true, Nat.reduceAdd, Nat.reduceSub, ne_eq, not_true_eq_false, not_false_eq_true, Nat.zero_le, exists_eq', exists_eq, Int.toNat_natCast, AH.set_self, List.cons.injEq, hdS, tln, tl, f_law]
  refine peg_st (by exact o653) st (by exact o654) hpl' (by exact o655) fun r₁ H₃ r10 r11 st₃ _ => ?_
  try simp only [x0, x1, x2, x3, x4, x5, x6, x7, x9, x10, x11, x12, x13, x14, x15, x16, x17, x18, x19, x20, x21, x22, x23, x27, x28, x29, x30, x31, x32, x33, x34, x35, x36, x37, x38, x39, x40, x41, x42, x43, x44, x49, x50, x51, x52, x53, forR_eq, forL_eq, forE_eq, idx_eq, x54, x55, x56, x57, x58, x59, x60, x61, x62, x63, x64, x65, x66, x67, x68, x69, x70, x71, x72, x73, x74, x75, x76, x77, x78, x79, x80, x81, x82, x83, x84, x85, x86, x87, x88, x89, x90, x91, x92, yz0, yz1, yz2, yz3, Option.some.injEq, exists_eq_left', exists_eq_left, exists_and_left, V.ref.injEq, V.int.injEq, V.fn.injEq, V.bool.injEq, Ob.lst.injEq, Ob.tup.injEq, decide_eq_true_eq, decide_eq_false_iff_not, Bool.not_eq_true', Bool.not_eq_false', Bool.not_true, Bool.not_false, List.length_map, yz4, yz5, yz6, yz7, yz8, yz9, yz10, yz11, true_and, and_true, reduceCtorEq, Bool.false_eq_true, Bool.true_eq_false, if_true, if_false, false_implies, true_implies, forall_const, and_self, false_and, and_false, or_false, false_or, implies_true, Nat.reduceAdd, Nat.reduceSub, ne_eq, not_true_eq_false, not_false_eq_true, Nat.zero_le, exists_eq', exists_eq, Int.toNat_natCast, AH.set_self, List.cons.injEq]
  refine peg_st (by exact o653) st₃ (by exact o656) hpl' (by exact o657) fun r₂ H₄ r20 r21 st₄ _ => ?_
  try simp only [x0, x1, x2, x3, x4, x5, x6, x7, x9, x10, x11, x12, x13, x14, x15, x16, x17, x18, x19, x20, x21, x22, x23, x27, x28, x29, x30, x31, x32, x33, x34, x35, x36, x37, x38, x39, x40, x41, x42, x43, x44, x49, x50, x51, x52, x53, forR_eq, forL_eq, forE_eq, idx_eq, x54, x55, x56, x57, x58, x59, x60, x61, x62, x63, x64, x65, x66, x67, x68, x69, x70, x71, x72, x73, x74, x75, x76, x77, x78, x79, x80, x81, x82, x83, x84, x85, x86, x87, x88, x89, x90, x91, x92, yz0, yz1, yz2, yz3, Option.some.injEq, exists_eq_left', exists_eq_left, exists_and_left, V.ref.injEq, V.int.injEq, V.fn.injEq, V.bool.injEq, Ob.lst.injEq, Ob.tup.injEq, decide_eq_true_eq, decide_eq_false_iff_not, Bool.not_eq_true', Bool.not_eq_false', Bool.not_true, Bool.not_false, List.length_map, yz4, yz5, yz6, yz7, yz8, yz9, yz10, yz11, true_and, and_true, reduceCtorEq, Bool.false_eq_true, Bool.true_eq_false, if_true, if_false, false_implies, true_implies, forall_const, and_self, false_and, and_false, or_false, false_or, implies_true, Nat.reduceAdd, Nat.reduceSub, ne_eq, not_true_eq_false, not_false_eq_true, Nat.zero_le, exists_eq', exists_eq, Int.toNat_natCast, AH.set_self, List.cons.injEq]
  subst hr
  show execsS _ (.cons (hdS (tln 2 f_law.body)) (tln 3 f_law.body)) _ _ _
  refine step_in ?_
  generalize hr : tln 3 f_law.body = rest
  simp only [x0, x1, x2, x3, x4, x5, x6, x7, x9, x10, x11, x12, x13, x14, x15, x16, x17, x18, x19, x20, x21, x22, x23, x27, x28, x29, x30, x31, x32, x33, x34, x35, x36, x37, x38, x39, x40, x41, x42, x43, x44, x49, x50, x51, x52, x53, forR_eq, forL_eq, forE_eq, idx_eq, x54, x55, x56, x57, x58, x59, x60, x61, x62, x63, x64, x65, x66, x67, x68, x69, x70, x71, x72, x73, x74, x75, x76, x77, x78, x79, x80, x81, x82, x83, x84, x85, x86, x87, x88, x89, x90, x91, x92, yz0, yz1, yz2, yz3, Option.some.injEq, exists_eq_left', exists_eq_left, exists_and_left, V.ref.injEq, V.int.injEq, V.fn.injEq, V.bool.injEq, Ob.lst.injEq, Ob.tup.injEq, decide_eq_true_eq, decide_eq_false_iff_not, Bool.not_eq_true', Bool.not_eq_false', Bool.not_true, Bool.not_false, List.length_map, yz4, yz5, yz6, yz7, yz8, yz9, yz10, yz11, true_and, and_true, reduceCtorEq, Bool.false_eq_true, Bool.true_eq_false, if_true, if_false, false_implies, true_implies, forall_const, and_self, false_and, and_false, or_false, false_or, implies_true, Nat.reduceAdd, Nat.reduceSub, ne_eq, not_true_eq_false, not_false_eq_true, Nat.zero_le, exists_eq', exists_eq, Int.toNat_natCast, AH.set_self, List.cons.injEq, hdS, tln, tl, f_law, l3]
  refine peg_st (by exact o653) st₄ (by exact o658) hpl' (by exact o655) fun r₃ H₅ r30 r31 st₅ _ => ?_
  try simp only [x0, x1, x2, x3, x4, x5, x6, x7, x9, x10, x11, x12, x13, x14, x15, x16, x17, x18, x19, x20, x21, x22, x23, x27, x28, x29, x30, x31, x32, x33, x34, x35, x36, x37, x38, x39, x40, x41, x42, x43, x44, x49, x50, x51, x52, x53, forR_eq, forL_eq, forE_eq, idx_eq, x54, x55, x56, x57, x58, x59, x60, x61, x62, x63, x64, x65, x66, x67, x68, x69, x70, x71, x72, x73, x74, x75, x76, x77, x78, x79, x80, x81, x82, x83, x84, x85, x86, x87, x88, x89, x90, x91, x92, yz0, yz1, yz2, yz3, Option.some.injEq, exists_eq_left', exists_eq_left, exists_and_left, V.ref.injEq, V.int.injEq, V.fn.injEq, V.bool.injEq, Ob.lst.injEq, Ob.tup.injEq, decide_eq_true_eq, decide_eq_false_iff_not, Bool.not_eq_true', Bool.not_eq_false', Bool.not_true, Bool.not_false, List.length_map, yz4, yz5, yz6, yz7, yz8, yz9, yz10, yz11, true_and, and_true, reduceCtorEq, Bool.false_eq_true, Bool.true_eq_false, if_true, if_false, false_implies, true_implies, forall_const, and_self, false_and, and_false, or_false, false_or, implies_true, Nat.reduceAdd, Nat.reduceSub, ne_eq, not_true_eq_false, not_false_eq_true, Nat.zero_le, exists_eq', exists_eq, Int.toNat_natCast, AH.set_self, List.cons.injEq]
  intro c₂ hc₂
  have st₅' := st₅.sub (Sub.new (ob := .lst [V.int 2, V.int 3, V.int 5]) hc₂)
  refine peg_st (by exact o653) st₅' (by exact o659) hpl' (by exact o655) fun r₄ H₆ r40 r41 st₆ sb₆ => ?_
  have hne₂ : c₂ ≠ bd := fun q => by have := st₅.brd; unfold Bd at this; rw [← q, hc₂] at this; cases this
  have h235 : IL H₆ c₂ [2, 3, 5] := sb₆ _ _ hne₂ AH.set_self
  obtain ⟨many, hmany, hm5⟩ : ∃ many : Nat, ([2, 3, 5] : List Int)[r₄.toNat]? = some (many : Int) ∧ (1 ≤ many ∧ many ≤ 5) := by
    rcases (by exact o660 r40 r41 : r₄ = 0 ∨ r₄ = 1 ∨ r₄ = 2) with rfl | rfl | rfl
    · exact ⟨2, rfl, by exact o661⟩
    · exact ⟨3, rfl, by exact o662⟩
    · exact ⟨5, rfl, by exact o663⟩
  refine idx_int h235 (lim_small (by simp)) r40 hmany ?_
  try simp only [x0, x1, x2, x3, x4, x5, x6, x7, x9, x10, x11, x12, x13, x14, x15, x16, x17, x18, x19, x20, x21, x22, x23, x27, x28, x29, x30, x31, x32, x33, x34, x35, x36, x37, x38, x39, x40, x41, x42, x43, x44, x49, x50, x51, x52, x53, forR_eq, forL_eq, forE_eq, idx_eq, x54, x55, x56, x57, x58, x59, x60, x61, x62, x63, x64, x65, x66, x67, x68, x69, x70, x71, x72, x73, x74, x75, x76, x77, x78, x79, x80, x81, x82, x83, x84, x85, x86, x87, x88, x89, x90, x91, x92, yz0, yz1, yz2, yz3, Option.some.injEq, exists_eq_left', exists_eq_left, exists_and_left, V.ref.injEq, V.int.injEq, V.fn.injEq, V.bool.injEq, Ob.lst.injEq, Ob.tup.injEq, decide_eq_true_eq, decide_eq_false_iff_not, Bool.not_eq_true', Bool.not_eq_false', Bool.not_true, Bool.not_false, List.length_map, yz4, yz5, yz6, yz7, yz8, yz9, yz10, yz11, true_and, and_true, reduceCtorEq, Bool.false_eq_true, Bool.true_eq_false, if_true, if_false, false_implies, true_implies, forall_const, and_self, false_and, and_false, or_false, false_or, implies_true, Nat.reduceAdd, Nat.reduceSub, ne_eq, not_true_eq_false, not_false_eq_true, Nat.zero_le, exists_eq', exists_eq, Int.toNat_natCast, AH.set_self, List.cons.injEq]
  refine peg_st (by exact o653) st₆ (by exact o664) hpl' (by exact o665) fun r₅ H₇ r50 r51 st₇ _ => ?_
  try simp only [x0, x1, x2, x3, x4, x5, x6, x7, x9, x10, x11, x12, x13, x14, x15, x16, x17, x18, x19, x20, x21, x22, x23, x27, x28, x29, x30, x31, x32, x33, x34, x35, x36, x37, x38, x39, x40, x41, x42, x43, x44, x49, x50, x51, x52, x53, forR_eq, forL_eq, forE_eq, idx_eq, x54, x55, x56, x57, x58, x59, x60, x61, x62, x63, x64, x65, x66, x67, x68, x69, x70, x71, x72, x73, x74, x75, x76, x77, x78, x79, x80, x81, x82, x83, x84, x85, x86, x87, x88, x89, x90, x91, x92, yz0, yz1, yz2, yz3, Option.some.injEq, exists_eq_left', exists_eq_left, exists_and_left, V.ref.injEq, V.int.injEq, V.fn.injEq, V.bool.injEq, Ob.lst.injEq, Ob.tup.injEq, decide_eq_true_eq, decide_eq_false_iff_not, Bool.not_eq_true', Bool.not_eq_false', Bool.not_true, Bool.not_false, List.length_map, yz4, yz5, yz6, yz7, yz8, yz9, yz10, yz11, true_and, and_true, reduceCtorEq, Bool.false_eq_true, Bool.true_eq_false, if_true, if_false, false_implies, true_implies, forall_const, and_self, false_and, and_false, or_false, false_or, implies_true, Nat.reduceAdd, Nat.reduceSub, ne_eq, not_true_eq_false, not_false_eq_true, Nat.zero_le, exists_eq', exists_eq, Int.toNat_natCast, AH.set_self, List.cons.injEq]
  subst hr
  obtain ⟨w, hwv⟩ : ∃ w : Nat, 4 + r₁ = (w : Int) := ⟨(4 + r₁).toNat, by exact o666 r10⟩
  have hw : WOk w (2 ^ w) := ⟨by exact o667 r10 r11 hwv, rfl⟩
  rw [hwv]
  show execsS _ (.cons (hdS (tln 3 f_law.body)) (tln 4 f_law.body)) _ _ _
  refine step_in ?_
  generalize hr : tln 4 f_law.body = rest
  simp only [x0, x1, x2, x3, x4, x5, x6, x7, x9, x10, x11, x12, x13, x14, x15, x16, x17, x18, x19, x20, x21, x22, x23, x27, x28, x29, x30, x31, x32, x33, x34, x35, x36, x37, x38, x39, x40, x41, x42, x43, x44, x49, x50, x51, x52, x53, forR_eq, forL_eq, forE_eq, idx_eq, x54, x55, x56, x57, x58, x59, x60, x61, x62, x63, x64, x65, x66, x67, x68, x69, x70, x71, x72, x73, x74, x75, x76, x77, x78, x79, x80, x81, x82, x83, x84, x85, x86, x87, x88, x89, x90, x91, x92, yz0, yz1, yz2, yz3, Option.some.injEq, exists_eq_left', exists_eq_left, exists_and_left, V.ref.injEq, V.int.injEq, V.fn.injEq, V.bool.injEq, Ob.lst.injEq, Ob.tup.injEq, decide_eq_true_eq, decide_eq_false_iff_not, Bool.not_eq_true', Bool.not_eq_false', Bool.not_true, Bool.not_false, List.length_map, yz4, yz5, yz6, yz7, yz8, yz9, yz10, yz11, true_and, and_true, reduceCtorEq, Bool.false_eq_true, Bool.true_eq_false, if_true, if_false, false_implies, true_implies, forall_const, and_self, false_and, and_false, or_false, false_or, implies_true, Nat.reduceAdd, Nat.reduceSub, ne_eq, not_true_eq_false, not_false_eq_true, Nat.zero_le, exists_eq', exists_eq, Int.toNat_natCast, AH.set_self, List.cons.injEq, hdS, tln, tl, f_law]
  refine cmpR_in ?_
  try simp only [x0, x1, x2, x3, x4, x5, x6, x7, x9, x10, x11, x12, x13, x14, x15, x16, x17, x18, x19, x20, x21, x22, x23, x27, x28, x29, x30, x31, x32, x33, x34, x35, x36, x37, x38, x39, x40, x41, x42, x43, x44, x49, x50, x51, x52, x53, forR_eq, forL_eq, forE_eq, idx_eq, x54, x55, x56, x57, x58, x59, x60, x61, x62, x63, x64, x65, x66, x67, x68, x69, x70, x71, x72, x73, x74, x75, x76, x77, x78, x79, x80, x81, x82, x83, x84, x85, x86, x87, x88, x89, x90, x91, x92, yz0, yz1, yz2, yz3, Option.some.injEq, exists_eq_left', exists_eq_left, exists_and_left, V.ref.injEq, V.int.injEq, V.fn.injEq, V.bool.injEq, Ob.lst.injEq, Ob.tup.injEq, decide_eq_true_eq, decide_eq_false_iff_not, Bool.not_eq_true', Bool.not_eq_false', Bool.not_true, Bool.not_false, List.length_map, yz4, yz5, yz6, yz7, yz8, yz9, yz10, yz11, true_and, and_true, reduceCtorEq, Bool.false_eq_true, Bool.true_eq_false, if_true, if_false, false_implies, true_implies, forall_const, and_self, false_and, and_false, or_false, false_or, implies_true, Nat.reduceAdd, Nat.reduceSub, ne_eq, not_true_eq_false, not_false_eq_true, Nat.zero_le, exists_eq', exists_eq, Int.toNat_natCast, AH.set_self, List.cons.injEq]
  refine peg_st (by exact o653) st₇ (by exact o668) hpl' (by exact o669) fun r₆ H₈ r60 r61 st₈ _ => ?_
  refine ⟨rangeOk_up (by exact o670) (by exact o671) (by exact o672 r60) (by exact o673 r61), ?_⟩
  refine pegs_row (n := 599) (base := 3 + r₂) (by exact o653) st₈ (by exact o674) hpl' (by exact o675 r20) ⟨r60, r61⟩ (fun v H K h => h) fun as H₉ k₉ hla hLa st₉ hk₉ sb₉ => ?_
  intro ca hca
  have ia : IL (H₉.set ca (.lst (as.map V.int))) ca as := il_set
  have hnea : ca ≠ bd := fun q => by have := st₉.brd; unfold Bd at this; rw [← q, hca] at this; cases this
  have st₉' := st₉.sub (Sub.new (ob := .lst (as.map V.int)) hca)
  generalize H₉.set ca (.lst (as.map V.int)) = H₁₀ at *
  subst hr
  show execsS _ (.cons (hdS (tln 4 f_law.body)) (tln 5 f_law.body)) _ _ _
  refine step_in ?_
  generalize hr : tln 5 f_law.body = rest
  simp only [x0, x1, x2, x3, x4, x5, x6, x7, x9, x10, x11, x12, x13, x14, x15, x16, x17, x18, x19, x20, x21, x22, x23, x27, x28, x29, x30, x31, x32, x33, x34, x35, x36, x37, x38, x39, x40, x41, x42, x43, x44, x49, x50, x51, x52, x53, forR_eq, forL_eq, forE_eq, idx_eq, x54, x55, x56, x57, x58, x59, x60, x61, x62, x63, x64, x65, x66, x67, x68, x69, x70, x71, x72, x73, x74, x75, x76, x77, x78, x79, x80, x81, x82, x83, x84, x85, x86, x87, x88, x89, x90, x91, x92, yz0, yz1, yz2, yz3, Option.some.injEq, exists_eq_left', exists_eq_left, exists_and_left, V.ref.injEq, V.int.injEq, V.fn.injEq, V.bool.injEq, Ob.lst.injEq, Ob.tup.injEq, decide_eq_true_eq, decide_eq_false_iff_not, Bool.not_eq_true', Bool.not_eq_false', Bool.not_true, Bool.not_false, List.length_map, yz4, yz5, yz6, yz7, yz8, yz9, yz10, yz11, true_and, and_true, reduceCtorEq, Bool.false_eq_true, Bool.true_eq_false, if_true, if_false, false_implies, true_implies, forall_const, and_self, false_and, and_false, or_false, false_or, implies_true, Nat.reduceAdd, Nat.reduceSub, ne_eq, not_true_eq_false, not_false_eq_true, Nat.zero_le, exists_eq', exists_eq, Int.toNat_natCast, AH.set_self, List.cons.injEq, hdS, tln, tl, f_law]
  refine cmpR_in ?_
  try simp only [x0, x1, x2, x3, x4, x5, x6, x7, x9, x10, x11, x12, x13, x14, x15, x16, x17, x18, x19, x20, x21, x22, x23, x27, x28, x29, x30, x31, x32, x33, x34, x35, x36, x37, x38, x39, x40, x41, x42, x43, x44, x49, x50, x51, x52, x53, forR_eq, forL_eq, forE_eq, idx_eq, x54, x55, x56, x57, x58, x59, x60, x61, x62, x63, x64, x65, x66, x67, x68, x69, x70, x71, x72, x73, x74, x75, x76, x77, x78, x79, x80, x81, x82, x83, x84, x85, x86, x87, x88, x89, x90, x91, x92, yz0, yz1, yz2, yz3, Option.some.injEq, exists_eq_left', exists_eq_left, exists_and_left, V.ref.injEq, V.int.injEq, V.fn.injEq, V.bool.injEq, Ob.lst.injEq, Ob.tup.injEq, decide_eq_true_eq, decide_eq_false_iff_not, Bool.not_eq_true', Bool.not_eq_false', Bool.not_true, Bool.not_false, List.length_map, yz4, yz5, yz6, yz7, yz8, yz9, yz10, yz11, true_and, and_true, reduceCtorEq, Bool.false_eq_true, Bool.true_eq_false, if_true, if_false, false_implies, true_implies, forall_const, and_self, false_and, and_false, or_false, false_or, implies_true, Nat.reduceAdd, Nat.reduceSub, ne_eq, not_true_eq_false, not_false_eq_true, Nat.zero_le, exists_eq', exists_eq, Int.toNat_natCast, AH.set_self, List.cons.injEq]
  refine peg_st (by exact o653) st₉' (by exact o676 hk₉) hpl' (by exact o669) fun r₇ H₁₁ r70 r71 st₁₁ sb₁₁ => ?_
  refine ⟨rangeOk_up (by exact o670) (by exact o671) (by exact o672 r70) (by exact o673 r71), ?_⟩
  refine pegs_row (n := 599) (base := 3 + r₂) (by exact o653) st₁₁ (by exact o677 hk₉) hpl' (by exact o675 r20) ⟨r70, r71⟩ (fun v H K h => h) fun bs H₁₂ k₁₂ hlb hLb st₁₂ hk₁₂ sb₁₂ => ?_
  intro cb hcb
  have ia₁₂ : IL H₁₂ ca as := (sb₁₁.trans sb₁₂).il hnea ia
  subst hr
  exact law_mid (by exact o678) hw (by exact o679 r20 r21) hm5 (by exact o680 r50 r51) hLa hLb hla hlb ((Sub.new hcb).il ia₁₂) il_set
end Mine
end
open PySem PySem.Calls PySem.W PyProof.Rows
set_option Elab.async false
set_option maxRecDepth 100000 in
set_option maxHeartbeats 8000000 in
theorem PySem.Challenge.cw_sa0340_01_holds : PySem.Challenge.rw_sa0340_01.Holds := by
  w_on
  o_law
  o_head (Hook.none)
  case hw => w_witness2
  intro w s₀ s₁ mg mb G Y fa o pm cd doc dV kV ho hd hcd hD hmg hg args vals as hpre hlay hrd hwl hlo
  refine Ground.open G ?_
  intro T B D TE TW
  wrow_args hpre hlay hrd hwl hlo
  refine enter_call ?_
  rename_i ns hs hlay0 hL hr hl2 as1 as2 a ws as3 hls ra w1 r0 hI hr' hc1 hc2
  refine codeAny_mono (Mine.law_end Mine.law_true T (by decide +kernel) (by decide +kernel) hmg hls hI (by omega)) fun r s' h => ?_
  obtain ⟨rfl, h', tk, rfl, k⟩ := h
  exact ⟨.inl ⟨.bool true, .bool true, [], rfl, fun _ => rfl, .bool _, (by show (WShape.has [] (.bool true) .bool && (WTm.eq .res (.lit (.bool true))).holds [] _) = true; simp [WShape.has, WTm.holds, WTm.value]; try decide +kernel), fun _ => ⟨.nil, fun _ h => by cases h⟩⟩, .of_keep k, rfl, .of_eq hg⟩
