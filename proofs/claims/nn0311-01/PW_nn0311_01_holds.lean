import PyProof.Rows.All
import Wide.All
import OpenK.AllK
import Wide.FinOn
import PySem.Challenge.RW_nn0311_01
set_option Elab.async false
set_option maxRecDepth 100000
set_option linter.all false
set_option genSizeOf false

namespace Mine
theorem om1 {x0 : Nat} {x1 : Nat} {x2 : Nat} (h0 : (x1 ≤ x2)) (h1 : ((x0 + ((3 : Nat) * x2)) ≤ (900 : Nat))) : ((x0 + ((3 : Nat) * x1)) ≤ (900 : Nat)) := by lia
theorem om2 {x0 : Nat} {x1 : Nat} {x2 : Nat} (h0 : (x1 ≤ x2)) (h1 : ((x0 + ((30 : Nat) * x2)) ≤ (9000 : Nat))) : ((x0 + ((30 : Nat) * x1)) ≤ (9000 : Nat)) := by lia
theorem om3 {x0 : Nat} {x1 : Nat} {x2 : Nat} (h0 : ((x0 + ((30 : Nat) * x2)) ≤ (9000 : Nat))) (h1 : (x1 = (9900 : Nat))) : (x0 < x1) := by lia
theorem om4 {x0 : Nat} (h0 : (x0 < (64 : Nat))) : (x0 < (9000 : Nat)) := by lia
theorem om5 {x0 : Nat} (h0 : (x0 ≤ (64 : Nat))) : (x0 ≤ (16777216 : Nat)) := by lia
theorem om6 {x0 : Nat} : ((x0 + (1 : Nat)) ≤ ((x0 + (1 : Nat)) + (1 : Nat))) := by lia
theorem om7 {x0 : Nat} {x1 : Nat} (h0 : (x0 ≤ (x1 + (1 : Nat)))) : ((x0 + (1 : Nat)) ≤ ((x1 + (1 : Nat)) + (1 : Nat))) := by lia
theorem om8 {x0 : Nat} {x1 : Nat} {x2 : Nat} (h0 : (x1 < (100 : Nat))) (h1 : (x0 ≤ (x2 + (1 : Nat)))) (h2 : (x2 = x1)) : (x0 ≤ (1000 : Nat)) := by lia
theorem om9 {x0 : Nat} {x1 : Nat} (h0 : (x0 ≤ (1000000 : Nat))) (h1 : (x1 = x0)) : (x0 ≤ (16777216 : Nat)) := by lia
theorem om10 {x0 : Nat} {x1 : Nat} (h0 : ((x0 + ((3 : Nat) * (x1 + (1 : Nat)))) ≤ (900 : Nat))) : (x0 < (1000 : Nat)) := by lia
theorem om11 {x0 : Nat} {x1 : Nat} (h0 : ((x0 + ((3 : Nat) * (x1 + (1 : Nat)))) ≤ (900 : Nat))) : (((x0 + (1 : Nat)) + ((3 : Nat) * x1)) ≤ (900 : Nat)) := by lia
theorem om12 {x0 : Nat} {x1 : Nat} (h0 : ((x0 + ((30 : Nat) * (x1 + (1 : Nat)))) ≤ (9000 : Nat))) : (((x0 + (3 : Nat)) + ((30 : Nat) * x1)) ≤ (9000 : Nat)) := by lia
theorem om13 {x0 : Nat} {x1 : Nat} (h0 : (x1 < x0)) : ((0 : Int) < ((Nat.cast x0 : Int) - (Nat.cast x1 : Int))) := by lia
theorem om14 {x0 : Int} {x1 : Nat} : ((x0 + ((Nat.cast x1 : Int) + (1 : Int))) = ((x0 + (Nat.cast x1 : Int)) + (1 : Int))) := by lia
theorem om15 {x0 : Nat} {x1 : Nat} : (((Nat.cast x0 : Int) - ((Nat.cast x1 : Int) + (1 : Int))) = (((Nat.cast x0 : Int) - (Nat.cast x1 : Int)) - (1 : Int))) := by lia
theorem om16 {x0 : Nat} : (((Nat.cast x0 : Int) - (Nat.cast x0 : Int)) ≤ (0 : Int)) := by lia
theorem om17 : ((-((2 : Int) ^ (62 : Nat))) ≤ (0 : Int)) := by lia
theorem om18 : ((0 : Int) < ((2 : Int) ^ (62 : Nat))) := by lia
theorem om19 {x0 : Int} (h0 : (x0 < ((2 : Int) ^ (60 : Nat)))) (h1 : ((-((2 : Int) ^ (60 : Nat))) < x0)) : ((-((2 : Int) ^ (62 : Nat))) ≤ x0) := by lia
theorem om20 {x0 : Int} (h0 : (x0 < ((2 : Int) ^ (60 : Nat)))) (h1 : ((-((2 : Int) ^ (60 : Nat))) < x0)) : (x0 < ((2 : Int) ^ (62 : Nat))) := by lia
theorem om21 {x0 : Int} (h0 : (x0 < ((2 : Int) ^ (60 : Nat)))) (h1 : ((-((2 : Int) ^ (60 : Nat))) < x0)) (h2 : ((0 : Int) < x0)) : ((x0 - (0 : Int)) = (Nat.cast (Int.toNat x0) : Int)) := by lia
theorem om22 {x0 : Int} (h0 : (x0 < ((2 : Int) ^ (60 : Nat)))) (h1 : ((-((2 : Int) ^ (60 : Nat))) < x0)) (h2 : (¬ ((0 : Int) < x0))) : ((0 : Int) = (Nat.cast (Int.toNat x0) : Int)) := by lia
theorem om23 {x0 : Int} (h0 : ((-((2 : Int) ^ (60 : Nat))) < x0)) (h1 : (x0 < ((2 : Int) ^ (60 : Nat)))) : ((-((2 : Int) ^ (62 : Nat))) ≤ x0) := by lia
theorem om24 {x0 : Int} (h0 : ((-((2 : Int) ^ (60 : Nat))) < x0)) (h1 : (x0 < ((2 : Int) ^ (60 : Nat)))) : (x0 < ((2 : Int) ^ (62 : Nat))) := by lia
theorem om25 {x0 : Int} {x1 : Int} (h0 : (x1 < x0)) : ((x0 - x1) = (Nat.cast (Int.toNat (x0 - x1)) : Int)) := by lia
theorem om26 {x0 : Int} {x1 : Int} (h0 : (¬ (x1 < x0))) : ((0 : Int) = (Nat.cast (Int.toNat (x0 - x1)) : Int)) := by lia
theorem om27 {x0 : Nat} {x1 : Nat} (h0 : (x1 < x0)) : (((x0 + (1 : Nat)) - (x1 + (1 : Nat))) < ((x0 + (1 : Nat)) - x1)) := by lia
theorem om28 {x0 : Nat} {x1 : Nat} {x2 : Nat} (h0 : (x1 ≤ (1000000 : Nat))) (h1 : (x2 < x1)) (h2 : (x0 ≤ x2)) : (x0 ≤ (16777216 : Nat)) := by lia
theorem om29 {x0 : Nat} {x1 : Nat} {x2 : Nat} (h0 : ((x0 + ((30 : Nat) * x2)) ≤ (9000 : Nat))) (h1 : (x1 = (9900 : Nat))) : ((x0 + (1 : Nat)) < x1) := by lia
theorem om30 {x0 : Nat} : (¬ ((x0 + (1 : Nat)) < x0)) := by lia
theorem om31 {x0 : Nat} {x1 : Nat} (h0 : ((x0 + ((30 : Nat) * (x1 + (1 : Nat)))) ≤ (9000 : Nat))) : (((x0 + (1 : Nat)) + ((30 : Nat) * x1)) ≤ (9000 : Nat)) := by lia
theorem om32 {x0 : Int} (h0 : ((0 : Int) ≤ x0)) (h1 : (x0 ≤ (1000 : Int))) : (((-(9223372036854775808 : Int)) ≤ x0) ∧ (x0 < (9223372036854775808 : Int))) := by lia
theorem om33 {x0 : Int} (h0 : ((0 : Int) ≤ x0)) (h1 : (x0 ≤ (1000 : Int))) : (¬ (((1 : Nat) * (Int.toNat x0)) > ((((2 : Nat) ^ (63 : Nat)) - (1 : Nat)) / (8 : Nat)))) := by lia
theorem om34 {x0 : Int} (h0 : ((0 : Int) ≤ x0)) (h1 : (x0 ≤ (1000 : Int))) : (x0 ≤ (16777216 : Int)) := by lia
theorem om35 {x0 : Nat} (h0 : (x0 ≤ (1000 : Nat))) : (x0 ≤ (16777216 : Nat)) := by lia
theorem om36 {x0 : Nat} (h0 : (x0 ≤ (1 : Nat))) : ((max ((0 : Nat) + (1 : Nat)) x0) ≤ (1 : Nat)) := by lia
theorem om37 {x0 : Nat} (h0 : (x0 ≤ (1 : Nat))) : ((x0 + (1 : Nat)) ≤ (64 : Nat)) := by lia
theorem om38 {x0 : Nat} {x1 : Nat} {x2 : Nat} (h0 : ((x0 + ((30 : Nat) * x2)) ≤ (9000 : Nat))) (h1 : (x1 = (9900 : Nat))) : ((x0 + (64 : Nat)) < x1) := by lia
theorem om39 {x0 : Nat} (h0 : (x0 < ((2 : Nat) ^ (59 : Nat)))) : ((Nat.cast x0 : Int) < ((2 : Int) ^ (60 : Nat))) := by lia
theorem om40 {x0 : Nat} (h0 : (x0 < ((2 : Nat) ^ (59 : Nat)))) : ((-((2 : Int) ^ (60 : Nat))) < (Nat.cast x0 : Int)) := by lia
theorem om41 {x0 : Nat} (h0 : (x0 ≤ (1000000 : Nat))) : ((Nat.cast x0 : Int) < ((2 : Int) ^ (60 : Nat))) := by lia
theorem om42 {x0 : Nat} (h0 : (x0 ≤ (1000000 : Nat))) : ((-((2 : Int) ^ (60 : Nat))) < (Nat.cast x0 : Int)) := by lia
theorem om43 {x0 : Nat} {x1 : Nat} {x2 : Nat} (h0 : ((x0 + x2) ≤ (1000000 : Nat))) (h1 : (x1 < x2)) : ((x0 + (min x1 x2)) ≤ (16777216 : Nat)) := by lia
theorem om44 {x0 : Nat} {x1 : Nat} {x2 : Nat} : ((x0 + x1) ≤ (x0 + (x1 + x2))) := by lia
theorem om45 {x0 : Nat} {x1 : Nat} {x2 : Nat} (h0 : (x2 ≤ (1000000 : Nat))) (h1 : ((x0 + x1) ≤ x2)) : ((x0 + x1) ≤ (1000000 : Nat)) := by lia
theorem om46 {x0 : Int} {x1 : Int} {x2 : Nat} (h0 : (x0 = (x1 + (Nat.cast x2 : Int)))) (h1 : ((2 : Int) ≤ x1)) : ((2 : Int) ≤ x0) := by lia
theorem om47 {x0 : Int} {x1 : Int} {x2 : Int} {x3 : Nat} (h0 : (x1 = (x2 + (Nat.cast x3 : Int)))) (h1 : (x0 < x1)) : (¬ (x0 = x1)) := by lia
theorem om48 {x0 : Int} {x1 : Int} {x2 : Nat} (h0 : (x0 = (x1 + (Nat.cast x2 : Int)))) : ((x0 + (1 : Int)) = (x1 + ((Nat.cast x2 : Int) + (1 : Int)))) := by lia
theorem om49 {x0 : Nat} {x1 : Int} {x2 : Int} {x3 : Nat} (h0 : (x1 = (x2 + (Nat.cast x3 : Int)))) (h1 : ((Nat.cast x0 : Int) ≤ x1)) : ((Nat.cast x0 : Int) ≤ (x1 + (1 : Int))) := by lia
theorem om50 {x0 : Nat} {x1 : Int} {x2 : Int} {x3 : Nat} (h0 : (x1 = (x2 + (Nat.cast x3 : Int)))) (h1 : ((Nat.cast x0 : Int) ≤ ((2 : Int) * x1))) : ((Nat.cast x0 : Int) ≤ ((2 : Int) * (x1 + (1 : Int)))) := by lia
theorem om51 {x0 : Int} {x1 : Int} {x2 : Nat} (h0 : (x0 = (x1 + (Nat.cast x2 : Int)))) (h1 : ((2 : Int) ≤ x0)) : ((0 : Int) < x0) := by lia
theorem om52 {x0 : Int} {x1 : Int} {x2 : Nat} (h0 : (x0 = (x1 + (Nat.cast x2 : Int)))) (h1 : ((2 : Int) ≤ x0)) : ((1 : Int) < x0) := by lia
theorem om53 {x0 : Int} {x1 : Nat} {x2 : Int} {x3 : Nat} (h0 : (x2 = (x0 + (Nat.cast x3 : Int)))) (h1 : (x1 < x3)) : ((x0 + (Nat.cast x1 : Int)) < x2) := by lia
theorem om54 {x0 : Int} {x1 : Int} {x2 : Int} {x3 : Nat} {x4 : Nat} (h0 : (x1 = (x2 + (Nat.cast x3 : Int)))) (h1 : (x4 < x3)) (h2 : (x0 < (x2 + (Nat.cast x4 : Int)))) : (x0 < x1) := by lia
theorem om55 {x0 : Nat} {x1 : Nat} (h0 : (¬ (x1 < x0))) : (x0 ≤ x1) := by lia
theorem om56 {x0 : Int} {x1 : Nat} {x2 : Int} {x3 : Nat} (h0 : (x2 = (x0 + (Nat.cast x3 : Int)))) (h1 : (¬ (x1 < x3))) (h2 : ((x1 - x3) = (0 : Nat))) : ((x0 + (Nat.cast x1 : Int)) = x2) := by lia
theorem om57 {x0 : Int} {x1 : Int} {x2 : Int} {x3 : Nat} (h0 : (x1 = (x2 + (Nat.cast x3 : Int)))) (h1 : (x0 < x1)) : (x0 < (x1 + (1 : Int))) := by lia
theorem om58 {x0 : Int} {x1 : Int} {x2 : Int} {x3 : Nat} (h0 : (x1 = (x2 + (Nat.cast x3 : Int)))) (h1 : (((0 : Int) ≤ x0) ∧ (x0 < x1))) : (((0 : Int) ≤ x0) ∧ (x0 < (x1 + (1 : Int)))) := by lia
theorem om59 {x0 : Int} {x1 : Int} (h0 : ((0 : Int) ≤ x1)) : (x0 ≤ (x0 + x1)) := by lia
theorem om60 {x0 : Int} {x1 : Int} {x2 : Int} {x3 : Int} {x4 : Int} (h0 : (x4 ≤ (x1 + x2))) (h1 : (x0 ≤ (x4 + x3))) : (x0 ≤ (x1 + (x2 + x3))) := by lia
theorem om61 {x0 : Int} {x1 : Int} {x2 : Int} (h0 : (x0 < x2)) (h1 : (x2 ≤ x1)) : (x0 < x1) := by lia
theorem om62 {x0 : Int} {x1 : Int} {x2 : Int} {x3 : Int} (h0 : (x3 ≤ x2)) (h1 : (x0 ≤ (x1 + x3))) : (x0 ≤ (x1 + x2)) := by lia
theorem om63 {x0 : Prop} {x1 : Int} (h0 : ((0 : Int) ≤ x1)) (h1 : ((-(1 : Int)) = x1)) : x0 := by lia
theorem om64 {x0 : Nat} {x1 : Int} {x2 : Int} (h0 : (x1 ≤ (400000 : Int))) (h1 : (x1 = (x2 + (Nat.cast x0 : Int)))) (h2 : ((2 : Int) ≤ x2)) : (x0 ≤ (1000000 : Nat)) := by lia
theorem om65 {x0 : Nat} {x1 : Int} {x2 : Int} (h0 : (((0 : Int) ≤ x1) ∧ (x1 < x2))) (h1 : (x2 ≤ (400000 : Int))) (h2 : ((Nat.cast x0 : Int) ≤ x2)) : (x0 ≤ (1000000 : Nat)) := by lia
theorem om66 {x0 : Int} {x1 : Int} (h0 : (x0 < x1)) : (x0 < (x1 + (1 : Int))) := by lia
theorem om67 {x0 : Int} {x1 : Int} (h0 : (((0 : Int) ≤ x0) ∧ (x0 < x1))) : (((0 : Int) ≤ x0) ∧ (x0 < (x1 + (1 : Int)))) := by lia
theorem om68 {x0 : Int} (h0 : (x0 ≤ (400000 : Int))) (h1 : ((2 : Int) ≤ x0)) : ((0 : Int) ≤ x0) := by lia
theorem om69 {x0 : Int} : (x0 < (x0 + (1 : Int))) := by lia
theorem om70 {x0 : Int} {x1 : Int} (h0 : (((0 : Int) ≤ x0) ∧ (x0 < x1))) : (x0 < x1) := by lia
theorem om71 {x0 : Int} : (x0 ≤ (x0 + (1 : Int))) := by lia
theorem om72 {x0 : Int} : ((x0 + (1 : Int)) ≤ (x0 + (1 : Int))) := by lia
theorem om73 {x0 : Int} (h0 : (x0 ≤ (400000 : Int))) (h1 : ((2 : Int) ≤ x0)) : (((1 : Int) - (0 : Int)) < x0) := by lia
theorem om74 {x0 : Int} (h0 : (x0 ≤ (400000 : Int))) (h1 : ((2 : Int) ≤ x0)) : (((1 : Int) - (1 : Int)) < x0) := by lia
theorem om75 {x0 : Nat} {x1 : Int} (h0 : (x1 ≤ (400000 : Int))) (h1 : ((2 : Int) ≤ x1)) (h2 : ((Nat.cast x0 : Int) ≤ ((2 : Int) * x1))) : (x0 ≤ (1000000 : Nat)) := by lia
theorem om76 {x0 : Int} {x1 : Int} (h0 : (((0 : Int) ≤ x0) ∧ (x0 < x1))) : (x0 < (x1 + (1 : Int))) := by lia
theorem om77 {x0 : Int} {x1 : Int} (h0 : (((0 : Int) ≤ x0) ∧ (x0 < x1))) : ((0 : Int) ≤ x0) := by lia
theorem om78 {x0 : Nat} {x1 : Int} (h0 : ((Nat.cast x0 : Int) ≤ ((2 : Int) * x1))) : (((Nat.cast x0 : Int) + (1 : Int)) ≤ ((2 : Int) * (x1 + (1 : Int)))) := by lia
theorem om79 {x0 : Nat} {x1 : Int} (h0 : (x1 ≤ (400000 : Int))) (h1 : ((2 : Int) ≤ x1)) (h2 : ((Nat.cast x0 : Int) ≤ ((2 : Int) * x1))) : (x0 ≤ (999999 : Nat)) := by lia
theorem om80 {x0 : Int} {x1 : Int} (h0 : (x0 < x1)) : (x0 ≠ x1) := by lia
theorem om81 {x0 : Int} {x1 : Int} (h0 : (((0 : Int) ≤ x0) ∧ (x0 < x1))) : (x0 ≠ x1) := by lia
theorem om82 {x0 : Nat} {x1 : Int} (h0 : ((Nat.cast x0 : Int) ≤ ((2 : Int) * x1))) : (((Nat.cast x0 : Int) + (2 : Int)) ≤ ((2 : Int) * (x1 + (1 : Int)))) := by lia
theorem om83 {x0 : Int} {x1 : Int} (h0 : (x1 < x0)) : (¬ (x0 < x1)) := by lia
theorem om84 {x0 : Int} {x1 : Int} (h0 : (x0 < x1)) : (¬ (x0 > x1)) := by lia
theorem om85 {x0 : Int} (h0 : (x0 ≤ (400000 : Int))) (h1 : ((2 : Int) ≤ x0)) : ((0 : Int) < x0) := by lia
theorem om86 {x0 : Int} (h0 : (x0 ≤ (400000 : Int))) (h1 : ((2 : Int) ≤ x0)) : ((1 : Int) < x0) := by lia
theorem om87 {x0 : Int} (h0 : (x0 ≤ (300000 : Int))) (h1 : ((2 : Int) ≤ x0)) : (x0 ≤ (400000 : Int)) := by lia
theorem om88 {x0 : Int} {x1 : Int} {x2 : Int} (h0 : (((0 : Int) ≤ x0) ∧ (x0 < x2))) (h1 : (x2 ≤ x1)) : (x0 < x1) := by lia
theorem om89 {x0 : Int} {x1 : Int} (h0 : (x1 ≤ (300000 : Int))) (h1 : ((2 : Int) ≤ x1)) (h2 : (x0 ≤ (x1 + (1 : Int)))) : (x0 ≤ (400000 : Int)) := by lia
theorem om90 {x0 : Nat} {x1 : Int} (h0 : (x1 ≤ (300000 : Int))) (h1 : ((2 : Int) ≤ x1)) (h2 : ((Nat.cast x0 : Int) ≤ x1)) : (x0 ≤ (1000000 : Nat)) := by lia
theorem om91 {x0 : Int} (h0 : (x0 ≤ (300000 : Int))) (h1 : ((2 : Int) ≤ x0)) : ((0 : Int) ≤ x0) := by lia
theorem om92 {x0 : Int} : ((x0 + (1 : Int)) ≤ (x0 + (2 : Int))) := by lia
theorem om93 {x0 : Int} : (x0 ≤ (x0 + (2 : Int))) := by lia
theorem om94 {x0 : Nat} {x1 : Nat} (h0 : (¬ (x0 < x1))) (h1 : ((x0 - x1) = (0 : Nat))) : (x0 = x1) := by lia
theorem om95 {x0 : Int} (h0 : (((0 : Int) ≤ x0) ∧ (x0 < (2 : Int)))) : ((x0 = (0 : Int)) ∨ (x0 = (1 : Int))) := by lia
theorem om96 {x0 : Int} (h0 : (((-(1 : Int)) ≤ x0) ∧ (x0 < (1 : Int)))) : ((x0 = (-(1 : Int))) ∨ (x0 = (0 : Int))) := by lia
theorem om97 {x0 : Int} (h0 : (((0 : Int) ≤ x0) ∧ (x0 < (4 : Int)))) : ((x0 = (0 : Int)) ∨ ((x0 = (1 : Int)) ∨ ((x0 = (2 : Int)) ∨ (x0 = (3 : Int))))) := by lia
theorem om98 {x0 : Int} (h0 : (((-(2 : Int)) ≤ x0) ∧ (x0 < (2 : Int)))) : ((x0 = (-(2 : Int))) ∨ ((x0 = (-(1 : Int))) ∨ ((x0 = (0 : Int)) ∨ (x0 = (1 : Int))))) := by lia
theorem om99 {x0 : Int} (h0 : (((1 : Int) ≤ x0) ∧ (x0 ≤ (2 : Int)))) : ((0 : Int) ≤ (x0 - (1 : Int))) := by lia
theorem om100 {x0 : Int} (h0 : (((1 : Int) ≤ x0) ∧ (x0 ≤ (2 : Int)))) : ((x0 - (1 : Int)) ≤ (1000000 : Int)) := by lia
theorem om101 {x0 : Int} (h0 : (((1 : Int) ≤ x0) ∧ (x0 ≤ (2 : Int)))) : ((0 : Int) ≤ x0) := by lia
theorem om102 {x0 : Int} (h0 : (((1 : Int) ≤ x0) ∧ (x0 ≤ (2 : Int)))) : (x0 ≤ (1000000 : Int)) := by lia
theorem om103 {x0 : Nat} (h0 : ((x0 = (1 : Nat)) ∨ (x0 = (2 : Nat)))) : (x0 ≤ (1000000 : Nat)) := by lia
theorem om104 {x0 : Int} {x1 : Int} {x2 : Int} (h0 : (x2 ≤ x1)) (h1 : (((0 : Int) ≤ x0) ∧ (x0 < x2))) : (x0 < x1) := by lia
theorem om105 {x0 : Int} {x1 : Nat} {x2 : Int} {x3 : Nat} {x4 : Nat} (h0 : ((x1 = (1 : Nat)) ∨ (x1 = (2 : Nat)))) (h1 : (x2 ≤ (10000 : Int))) (h2 : ((2 : Int) ≤ x2)) (h3 : (x3 < x1)) (h4 : (x4 = x3)) (h5 : (x2 ≤ x0)) (h6 : (x0 ≤ (x2 + (Nat.cast x3 : Int)))) : (x0 ≤ (400000 : Int)) := by lia
theorem om106 {x0 : Nat} : (((Nat.cast x0 : Int) + (1 : Int)) ≤ ((Nat.cast x0 : Int) + (1 : Int))) := by lia
theorem om107 {x0 : Nat} (h0 : ((x0 = (1 : Nat)) ∨ (x0 = (2 : Nat)))) : ((Nat.cast x0 : Int) ≤ ((2 : Int) + ((2 : Int) * (Nat.cast (0 : Nat) : Int)))) := by lia
theorem om108 {x0 : Nat} (h0 : ((x0 = (1 : Nat)) ∨ (x0 = (2 : Nat)))) : ((Nat.cast x0 : Int) < (9223372036854775808 : Int)) := by lia
theorem om109 {x0 : Nat} {x1 : Nat} (h0 : ((x0 = (1 : Nat)) ∨ (x0 = (2 : Nat)))) (h1 : (x1 = x0)) : (((1 : Int) ≤ (Nat.cast x0 : Int)) ∧ ((Nat.cast x0 : Int) ≤ (2 : Int))) := by lia
theorem om110 {x0 : Int} {x1 : Nat} {x2 : Int} {x3 : Nat} {x4 : Nat} (h0 : (x1 ≤ (10 : Nat))) (h1 : (x2 ≤ (10000 : Int))) (h2 : ((2 : Int) ≤ x2)) (h3 : (x3 < x1)) (h4 : (x4 = x3)) (h5 : (x0 ≤ (x2 + ((2 : Int) + ((2 : Int) * (Nat.cast x3 : Int)))))) (h6 : (x2 ≤ x0)) : ((0 : Int) < x0) := by lia
theorem om111 {x0 : Nat} (h0 : ((x0 = (1 : Nat)) ∨ (x0 = (2 : Nat)))) : (x0 < ((2 : Nat) ^ (59 : Nat))) := by lia
theorem om112 {x0 : Int} {x1 : Nat} {x2 : Int} {x3 : Nat} {x4 : Nat} (h0 : (x1 ≤ (10 : Nat))) (h1 : (x2 ≤ (10000 : Int))) (h2 : ((2 : Int) ≤ x2)) (h3 : (x3 < x1)) (h4 : (x4 = x3)) (h5 : (x0 ≤ (x2 + ((2 : Int) + ((2 : Int) * (Nat.cast x3 : Int)))))) (h6 : (x2 ≤ x0)) : ((1 : Int) < x0) := by lia
theorem om113 {x0 : Nat} (h0 : ((x0 = (1 : Nat)) ∨ (x0 = (2 : Nat)))) : ((Nat.cast x0 : Int) ≤ (2 : Int)) := by lia
theorem om114 {x0 : Nat} : ((0 : Int) ≤ (Nat.cast x0 : Int)) := by lia
theorem om115 {x0 : Nat} {x1 : Nat} (h0 : ((x1 = (1 : Nat)) ∨ (x1 = (2 : Nat)))) (h1 : (x0 < x1)) : ((Nat.cast x0 : Int) < ((2 : Int) ^ (63 : Nat))) := by lia
theorem om116 {x0 : Int} {x1 : Int} {x2 : Nat} {x3 : Nat} {x4 : Nat} {x5 : Int} {x6 : Int} (h0 : (x2 ≤ (10 : Nat))) (h1 : (x3 < x2)) (h2 : (x4 = x3)) (h3 : (x5 ≤ (x6 + ((2 : Int) + ((2 : Int) * (Nat.cast x3 : Int)))))) (h4 : (x6 ≤ x5)) (h5 : (((0 : Int) ≤ x0) ∧ (x0 < x6))) (h6 : (x5 ≤ x1)) : (x0 < x1) := by lia
theorem om117 {x0 : Int} {x1 : Nat} {x2 : Nat} {x3 : Int} {x4 : Nat} {x5 : Nat} {x6 : Int} {x7 : Nat} (h0 : ((x1 = (1 : Nat)) ∨ (x1 = (2 : Nat)))) (h1 : (x2 ≤ (10 : Nat))) (h2 : (x3 ≤ (10000 : Int))) (h3 : ((2 : Int) ≤ x3)) (h4 : (x4 < x2)) (h5 : (x5 = x4)) (h6 : (x6 ≤ (x3 + ((2 : Int) + ((2 : Int) * (Nat.cast x4 : Int)))))) (h7 : (x3 ≤ x6)) (h8 : (x7 < x1)) (h9 : (x0 ≤ (x6 + (Nat.cast x7 : Int)))) (h10 : (x6 ≤ x0)) : (x0 ≤ (400000 : Int)) := by lia
theorem om118 {x0 : Nat} {x1 : Nat} {x2 : Nat} (h0 : (x1 ≤ (10 : Nat))) (h1 : (x2 < x1)) (h2 : (x0 = x2)) : (x0 ≤ (1000000 : Nat)) := by lia
theorem om119 {x0 : Nat} : ((((2 : Int) + ((2 : Int) * (Nat.cast x0 : Int))) + (2 : Int)) ≤ ((2 : Int) + ((2 : Int) * ((Nat.cast x0 : Int) + (1 : Int))))) := by lia
theorem om120 {x0 : Int} (h0 : ((x0 = (1 : Int)) ∨ (x0 = (-(1 : Int))))) : (x0 ≠ (0 : Int)) := by lia
theorem om121 {x0 : Nat} {x1 : Nat} {x2 : Nat} (h0 : (((1 : Nat) ≤ x2) ∧ (x2 ≤ (2 : Nat)))) (h1 : (((1 : Nat) ≤ x1) ∧ (x1 ≤ (3 : Nat)))) (h2 : ((Int.toNat ((Nat.cast x1 : Int) - ((1 : Int) - (Nat.cast x2 : Int)))) = x0)) : ((Nat.cast x0 : Int) = (((Nat.cast x1 : Int) + (Nat.cast x2 : Int)) - (1 : Int))) := by lia
theorem om122 {x0 : Nat} {x1 : Nat} {x2 : Nat} (h0 : (((1 : Nat) ≤ x0) ∧ (x0 ≤ (2 : Nat)))) (h1 : ((Nat.cast x1 : Int) = (((Nat.cast x2 : Int) + (Nat.cast x0 : Int)) - (1 : Int)))) : ((-((2 : Int) ^ (60 : Nat))) < ((1 : Int) - (Nat.cast x0 : Int))) := by lia
theorem om123 {x0 : Nat} {x1 : Nat} {x2 : Nat} (h0 : (((1 : Nat) ≤ x0) ∧ (x0 ≤ (2 : Nat)))) (h1 : ((Nat.cast x1 : Int) = (((Nat.cast x2 : Int) + (Nat.cast x0 : Int)) - (1 : Int)))) : (((1 : Int) - (Nat.cast x0 : Int)) < ((2 : Int) ^ (60 : Nat))) := by lia
theorem om124 {x0 : Nat} (h0 : (((1 : Nat) ≤ x0) ∧ (x0 ≤ (3 : Nat)))) : ((-((2 : Int) ^ (60 : Nat))) < (Nat.cast x0 : Int)) := by lia
theorem om125 {x0 : Nat} (h0 : (((1 : Nat) ≤ x0) ∧ (x0 ≤ (3 : Nat)))) : ((Nat.cast x0 : Int) < ((2 : Int) ^ (60 : Nat))) := by lia
theorem om126 {x0 : Nat} {x1 : Nat} {x2 : Nat} (h0 : (((1 : Nat) ≤ x1) ∧ (x1 ≤ (2 : Nat)))) (h1 : (((1 : Nat) ≤ x2) ∧ (x2 ≤ (3 : Nat)))) (h2 : ((Nat.cast x0 : Int) = (((Nat.cast x2 : Int) + (Nat.cast x1 : Int)) - (1 : Int)))) : (x0 ≤ (1000000 : Nat)) := by lia
theorem om127 {x0 : Nat} {x1 : Nat} {x2 : Nat} {x3 : Nat} (h0 : (((1 : Nat) ≤ x1) ∧ (x1 ≤ (2 : Nat)))) (h1 : (((1 : Nat) ≤ x2) ∧ (x2 ≤ (3 : Nat)))) (h2 : ((Nat.cast x3 : Int) = (((Nat.cast x2 : Int) + (Nat.cast x1 : Int)) - (1 : Int)))) (h3 : (x0 = x3)) : (x0 ≤ (1000000 : Nat)) := by lia
theorem om128 {x0 : Nat} {x1 : Nat} {x2 : Nat} {x3 : Nat} {x4 : Nat} (h0 : (((1 : Nat) ≤ x1) ∧ (x1 ≤ (2 : Nat)))) (h1 : (((1 : Nat) ≤ x2) ∧ (x2 ≤ (3 : Nat)))) (h2 : ((Nat.cast x3 : Int) = (((Nat.cast x2 : Int) + (Nat.cast x1 : Int)) - (1 : Int)))) (h3 : (x4 = x3)) (h4 : (x0 = x3)) : (x0 ≤ (10 : Nat)) := by lia
theorem om129 {x0 : Int} (h0 : (x0 ≤ (5000 : Int))) (h1 : ((2 : Int) ≤ x0)) : (x0 ≤ (10000 : Int)) := by lia
theorem om130 {x0 : Nat} {x1 : Nat} {x2 : Nat} {x3 : Nat} {x4 : Nat} (h0 : (x2 = x1)) (h1 : (x3 = x1)) (h2 : (x4 = x3)) (h3 : (x0 < x4)) : (x0 < x1) := by lia
theorem om131 {x0 : Nat} {x1 : Nat} {x2 : Int} : ((((1 : Int) - (Nat.cast x0 : Int)) + (Nat.cast x1 : Int)) = (((x2 + ((((1 : Int) - (Nat.cast x0 : Int)) + (Nat.cast x1 : Int)) * (1 : Int))) - x2) * (1 : Int))) := by lia
theorem om132 {x0 : Nat} {x1 : Nat} {x2 : Int} : ((((1 : Int) - (Nat.cast x0 : Int)) + (Nat.cast x1 : Int)) = (((x2 + ((((1 : Int) - (Nat.cast x0 : Int)) + (Nat.cast x1 : Int)) * (-(1 : Int)))) - x2) * (-(1 : Int)))) := by lia
theorem om133 {x0 : Int} {x1 : Int} : (x0 = (x1 + (((x0 - x1) * (1 : Int)) * (1 : Int)))) := by lia
theorem om134 {x0 : Int} {x1 : Int} : (x0 = (x1 + (((x0 - x1) * (-(1 : Int))) * (-(1 : Int))))) := by lia
theorem om135 {x0 : Nat} {x1 : Nat} {x2 : Nat} {x3 : Nat} {x4 : Nat} {x5 : Nat} (h0 : (((1 : Nat) ≤ x0) ∧ (x0 ≤ (2 : Nat)))) (h1 : (((1 : Nat) ≤ x1) ∧ (x1 ≤ (3 : Nat)))) (h2 : ((Nat.cast x2 : Int) = (((Nat.cast x1 : Int) + (Nat.cast x0 : Int)) - (1 : Int)))) (h3 : (x3 = x2)) (h4 : (x4 = x2)) (h5 : (x5 = x4)) (h6 : ((0 : Nat) = x3)) : False := by lia
theorem om136 {x0 : Nat} {x1 : Nat} {x2 : Nat} {x3 : Nat} {x4 : Nat} {x5 : Nat} (h0 : (((1 : Nat) ≤ x0) ∧ (x0 ≤ (2 : Nat)))) (h1 : (((1 : Nat) ≤ x1) ∧ (x1 ≤ (3 : Nat)))) (h2 : ((Nat.cast x2 : Int) = (((Nat.cast x1 : Int) + (Nat.cast x0 : Int)) - (1 : Int)))) (h3 : (x3 = x2)) (h4 : (x4 = x2)) (h5 : (x5 = x4)) (h6 : ((0 : Nat) = x5)) : False := by lia
theorem om137 {x0 : Nat} {x1 : Nat} {x2 : Nat} {x3 : Nat} {x4 : Nat} {x5 : Nat} (h0 : (((1 : Nat) ≤ x1) ∧ (x1 ≤ (2 : Nat)))) (h1 : (((1 : Nat) ≤ x2) ∧ (x2 ≤ (3 : Nat)))) (h2 : ((Nat.cast x3 : Int) = (((Nat.cast x2 : Int) + (Nat.cast x1 : Int)) - (1 : Int)))) (h3 : (x0 = x3)) (h4 : (x4 = x3)) (h5 : (x5 = x4)) : ((Nat.cast x0 : Int) < (9223372036854775808 : Int)) := by lia
theorem om138 {x0 : Nat} {x1 : Nat} {x2 : Nat} {x3 : Nat} {x4 : Nat} {x5 : Nat} (h0 : (((1 : Nat) ≤ x1) ∧ (x1 ≤ (2 : Nat)))) (h1 : (((1 : Nat) ≤ x2) ∧ (x2 ≤ (3 : Nat)))) (h2 : ((Nat.cast x0 : Int) = (((Nat.cast x2 : Int) + (Nat.cast x1 : Int)) - (1 : Int)))) (h3 : (x3 = x0)) (h4 : (x4 = x0)) (h5 : (x5 = x4)) : (x0 < ((2 : Nat) ^ (59 : Nat))) := by lia
theorem om139 {x0 : Nat} {x1 : Nat} {x2 : Nat} {x3 : Nat} {x4 : Nat} {x5 : Nat} (h0 : (((1 : Nat) ≤ x1) ∧ (x1 ≤ (2 : Nat)))) (h1 : (((1 : Nat) ≤ x2) ∧ (x2 ≤ (3 : Nat)))) (h2 : ((Nat.cast x3 : Int) = (((Nat.cast x2 : Int) + (Nat.cast x1 : Int)) - (1 : Int)))) (h3 : (x4 = x3)) (h4 : (x0 = x3)) (h5 : (x5 = x0)) : (((0 : Int) + ((2 : Int) + ((2 : Int) * (Nat.cast x0 : Int)))) ≤ (10 : Int)) := by lia
theorem om140 {x0 : Nat} (h0 : (x0 < (0 : Nat))) : (¬ (x0 < (0 : Nat))) := by lia
theorem om141 {x0 : Nat} {x1 : Nat} {x2 : Nat} {x3 : Nat} {x4 : Nat} (h0 : (x2 = x3)) (h1 : (x4 = x3)) (h2 : (x1 = x4)) (h3 : (x0 < x3)) : (x0 < x1) := by lia
theorem om142 {x0 : Nat} {x1 : Nat} {x2 : Nat} {x3 : Nat} {x4 : Nat} {x5 : Nat} {x6 : Nat} (h0 : (((1 : Nat) ≤ x1) ∧ (x1 ≤ (2 : Nat)))) (h1 : (((1 : Nat) ≤ x2) ∧ (x2 ≤ (3 : Nat)))) (h2 : ((Nat.cast x3 : Int) = (((Nat.cast x2 : Int) + (Nat.cast x1 : Int)) - (1 : Int)))) (h3 : (x4 = x3)) (h4 : (x5 = x3)) (h5 : (x6 = x5)) (h6 : (x0 < x3)) : ((Nat.cast x0 : Int) < ((2 : Int) ^ (63 : Nat))) := by lia
theorem om143 {x0 : Nat} {x1 : Nat} {x2 : Nat} {x3 : Nat} {x4 : Nat} {x5 : Nat} {x6 : Nat} {x7 : Nat} (h0 : (((1 : Nat) ≤ x1) ∧ (x1 ≤ (2 : Nat)))) (h1 : (((1 : Nat) ≤ x2) ∧ (x2 ≤ (3 : Nat)))) (h2 : ((Nat.cast x3 : Int) = (((Nat.cast x2 : Int) + (Nat.cast x1 : Int)) - (1 : Int)))) (h3 : (x4 = x3)) (h4 : (x5 = x3)) (h5 : (x6 = x5)) (h6 : (x7 < x3)) (h7 : (x0 ≤ x7)) : (x0 ≤ (1000000 : Nat)) := by lia
theorem om144 {x0 : Nat} {x1 : Nat} {x2 : Nat} {x3 : Nat} {x4 : Nat} {x5 : Nat} {x6 : Nat} (h0 : (((1 : Nat) ≤ x0) ∧ (x0 ≤ (2 : Nat)))) (h1 : ((Nat.cast x2 : Int) = (((Nat.cast x3 : Int) + (Nat.cast x0 : Int)) - (1 : Int)))) (h2 : (x4 = x2)) (h3 : (x5 = x2)) (h4 : (x6 = x5)) : ((-(10 : Int)) ≤ (((1 : Int) - (Nat.cast x0 : Int)) + (Nat.cast x1 : Int))) := by lia
theorem om145 {x0 : Nat} {x1 : Nat} {x2 : Nat} {x3 : Nat} {x4 : Nat} {x5 : Nat} {x6 : Nat} (h0 : (((1 : Nat) ≤ x2) ∧ (x2 ≤ (3 : Nat)))) (h1 : ((Nat.cast x3 : Int) = (((Nat.cast x2 : Int) + (Nat.cast x0 : Int)) - (1 : Int)))) (h2 : (x4 = x3)) (h3 : (x5 = x3)) (h4 : (x6 = x5)) (h5 : (x1 < x3)) : ((((1 : Int) - (Nat.cast x0 : Int)) + (Nat.cast x1 : Int)) ≤ (10 : Int)) := by lia
theorem om146 {x0 : Nat} {x1 : Nat} (h0 : (x0 < (x1 + (1 : Nat)))) (h1 : (¬ (x0 = x1))) : (x0 < x1) := by lia
theorem om147 {x0 : Nat} {x1 : Nat} (h0 : (x0 ≤ x1)) : (x0 ≤ (x1 + (1 : Nat))) := by lia
theorem om148 {x0 : Nat} {x1 : Nat} {x2 : Nat} {x3 : Nat} {x4 : Nat} {x5 : Nat} {x6 : Nat} (h0 : (((1 : Nat) ≤ x1) ∧ (x1 ≤ (2 : Nat)))) (h1 : (((1 : Nat) ≤ x2) ∧ (x2 ≤ (3 : Nat)))) (h2 : ((Nat.cast x3 : Int) = (((Nat.cast x2 : Int) + (Nat.cast x1 : Int)) - (1 : Int)))) (h3 : (x4 = x3)) (h4 : (x5 = x3)) (h5 : (x6 = x5)) (h6 : (x0 ≤ x3)) : (x0 ≤ (4 : Nat)) := by lia
theorem om149 {x0 : Int} {x1 : Nat} {x2 : Nat} {x3 : Nat} {x4 : Nat} {x5 : Nat} {x6 : Nat} (h0 : (((1 : Nat) ≤ x1) ∧ (x1 ≤ (2 : Nat)))) (h1 : (((1 : Nat) ≤ x3) ∧ (x3 ≤ (3 : Nat)))) (h2 : ((Nat.cast x2 : Int) = (((Nat.cast x3 : Int) + (Nat.cast x1 : Int)) - (1 : Int)))) (h3 : (x4 = x2)) (h4 : (x5 = x2)) (h5 : (x6 = x5)) (h6 : (((1 : Int) - (Nat.cast x1 : Int)) ≤ x0)) (h7 : (x0 < (Nat.cast x3 : Int))) : ((Int.toNat (x0 - ((1 : Int) - (Nat.cast x1 : Int)))) < x2) := by lia
theorem om150 {x0 : Nat} {x1 : Int} {x2 : Nat} {x3 : Nat} {x4 : Nat} {x5 : Nat} {x6 : Nat} (h0 : ((Nat.cast x2 : Int) = (((Nat.cast x3 : Int) + (Nat.cast x0 : Int)) - (1 : Int)))) (h1 : (x4 = x2)) (h2 : (x5 = x2)) (h3 : (x6 = x5)) (h4 : (((1 : Int) - (Nat.cast x0 : Int)) ≤ x1)) : ((((1 : Int) - (Nat.cast x0 : Int)) + (Nat.cast (Int.toNat (x1 - ((1 : Int) - (Nat.cast x0 : Int)))) : Int)) = x1) := by lia
theorem om151 {x0 : Nat} (h0 : (((1 : Nat) ≤ x0) ∧ (x0 ≤ (2 : Nat)))) : (x0 < ((2 : Nat) ^ (59 : Nat))) := by lia
theorem om152 {x0 : Int} {x1 : Nat} {x2 : Int} {x3 : Nat} {x4 : Nat} (h0 : (((1 : Nat) ≤ x1) ∧ (x1 ≤ (2 : Nat)))) (h1 : (x2 ≤ (10000 : Int))) (h2 : ((2 : Int) ≤ x2)) (h3 : (x3 < x1)) (h4 : (x4 = x3)) (h5 : (x0 ≤ (x2 + ((8 : Int) * (Nat.cast x3 : Int))))) (h6 : (x2 ≤ x0)) : ((0 : Int) < x0) := by lia
theorem om153 {x0 : Nat} : (((2 : Int) * (Nat.cast x0 : Int)) ≤ ((2 : Int) * (Nat.cast (x0 + (1 : Nat)) : Int))) := by lia
theorem om154 {x0 : Nat} (h0 : (x0 ≤ (10 : Nat))) : ((Nat.cast x0 : Int) < (9223372036854775808 : Int)) := by lia
theorem om155 {x0 : Int} {x1 : Nat} {x2 : Nat} {x3 : Nat} (h0 : (x3 = x1)) (h1 : ((0 : Int) ≤ (x0 + (Nat.cast x1 : Int)))) (h2 : ((x0 + (Nat.cast x1 : Int)) < (Nat.cast x2 : Int))) : ((Int.toNat (x0 + (Nat.cast x1 : Int))) < x2) := by lia
theorem om156 {x0 : Int} {x1 : Nat} {x2 : Nat} (h0 : (x2 = x1)) (h1 : ((0 : Int) ≤ (x0 + (Nat.cast x1 : Int)))) : ((Nat.cast (Int.toNat (x0 + (Nat.cast x1 : Int))) : Int) = (x0 + (Nat.cast x1 : Int))) := by lia
theorem om157 {x0 : Int} {x1 : Nat} {x2 : Nat} {x3 : Nat} (h0 : (x2 ≤ (10 : Nat))) (h1 : (x3 = x1)) (h2 : ((x0 + (Nat.cast x1 : Int)) < (Nat.cast x2 : Int))) : ((x0 + (Nat.cast x1 : Int)) < ((2 : Int) ^ (63 : Nat))) := by lia
theorem om158 {x0 : Int} {x1 : Int} {x2 : Int} {x3 : Int} (h0 : (x2 ≤ x3)) (h1 : (x3 ≤ x1)) (h2 : (((0 : Int) ≤ x0) ∧ (x0 < x2))) : (x0 < x1) := by lia
theorem om159 {x0 : Int} {x1 : Nat} {x2 : Nat} {x3 : Int} {x4 : Nat} {x5 : Nat} {x6 : Int} {x7 : Nat} {x8 : Int} (h0 : (x1 ≤ (4 : Nat))) (h1 : (x2 ≤ (10 : Nat))) (h2 : (x3 ≤ (10000 : Int))) (h3 : ((2 : Int) ≤ x3)) (h4 : (x4 = x5)) (h5 : (x6 ≤ (x3 + ((8 : Int) * (Nat.cast x5 : Int))))) (h6 : (x7 < x1)) (h7 : ((-(10 : Int)) ≤ x8)) (h8 : (x8 ≤ (10 : Int))) (h9 : (x0 ≤ (x6 + ((2 : Int) * (Nat.cast x7 : Int))))) (h10 : ((0 : Int) ≤ (x8 + (Nat.cast x5 : Int)))) (h11 : ((x8 + (Nat.cast x5 : Int)) < (Nat.cast x2 : Int))) : (x0 ≤ (400000 : Int)) := by lia
theorem om160 {x0 : Int} {x1 : Int} {x2 : Int} (h0 : (x0 < x2)) (h1 : (x1 ≤ (x2 + (1 : Int)))) (h2 : (x2 ≤ x1)) : (x0 < x1) := by lia
theorem om161 {x0 : Int} {x1 : Nat} {x2 : Nat} {x3 : Int} {x4 : Nat} {x5 : Nat} {x6 : Int} {x7 : Nat} {x8 : Int} {x9 : Int} (h0 : (x1 ≤ (4 : Nat))) (h1 : (x2 ≤ (10 : Nat))) (h2 : (x3 ≤ (10000 : Int))) (h3 : ((2 : Int) ≤ x3)) (h4 : (x4 = x5)) (h5 : (x6 ≤ (x3 + ((8 : Int) * (Nat.cast x5 : Int))))) (h6 : (x7 < x1)) (h7 : ((-(10 : Int)) ≤ x8)) (h8 : (x8 ≤ (10 : Int))) (h9 : (x9 ≤ (x6 + ((2 : Int) * (Nat.cast x7 : Int))))) (h10 : ((0 : Int) ≤ (x8 + (Nat.cast x5 : Int)))) (h11 : ((x8 + (Nat.cast x5 : Int)) < (Nat.cast x2 : Int))) (h12 : (x0 ≤ (x9 + (1 : Int)))) (h13 : (x9 ≤ x0)) : (x0 ≤ (400000 : Int)) := by lia
theorem om162 {x0 : Nat} : (((((2 : Int) * (Nat.cast x0 : Int)) + (1 : Int)) + (1 : Int)) ≤ ((2 : Int) * ((Nat.cast x0 : Int) + (1 : Int)))) := by lia
theorem om163 {x0 : Nat} {x1 : Nat} {x2 : Nat} (h0 : (((1 : Nat) ≤ x1) ∧ (x1 ≤ (2 : Nat)))) (h1 : (x2 < x1)) (h2 : (x0 = x2)) : (x0 ≤ (1000000 : Nat)) := by lia
theorem om164 {x0 : Nat} {x1 : Nat} (h0 : (x1 ≤ (4 : Nat))) : ((((8 : Int) * (Nat.cast x0 : Int)) + ((2 : Int) * (Nat.cast x1 : Int))) ≤ ((8 : Int) * ((Nat.cast x0 : Int) + (1 : Int)))) := by lia
theorem om165 {x0 : Nat} {x1 : Int} {x2 : Nat} {x3 : Nat} {x4 : Nat} (h0 : (x2 ≤ (10 : Nat))) (h1 : (x3 < x0)) (h2 : (x4 = x3)) (h3 : (((0 : Int) ≤ (x1 + (Nat.cast x3 : Int))) ∧ ((x1 + (Nat.cast x3 : Int)) < (Nat.cast x2 : Int)))) : (((1 : Int) - (Nat.cast x0 : Int)) ≤ x1) := by lia
theorem om166 {x0 : Int} {x1 : Nat} {x2 : Nat} {x3 : Nat} {x4 : Nat} (h0 : (((1 : Nat) ≤ x2) ∧ (x2 ≤ (2 : Nat)))) (h1 : (x3 < x2)) (h2 : (x4 = x3)) (h3 : (((0 : Int) ≤ (x0 + (Nat.cast x3 : Int))) ∧ ((x0 + (Nat.cast x3 : Int)) < (Nat.cast x1 : Int)))) : (x0 < (Nat.cast x1 : Int)) := by lia
theorem om167 {x0 : Int} {x1 : Nat} {x2 : Int} {x3 : Int} (h0 : ((Nat.cast x1 : Int) ≠ (x3 + x2))) (h1 : (x3 = x0)) : (((x0 ≤ (Nat.cast x1 : Int)) ∧ ((Nat.cast x1 : Int) < (x0 + x2))) ↔ ((x0 ≤ (Nat.cast x1 : Int)) ∧ ((Nat.cast x1 : Int) < (x0 + (x2 + (1 : Int)))))) := by lia
theorem om168 {x0 : Int} {x1 : Nat} {x2 : Int} {x3 : Int} (h0 : ((Nat.cast x1 : Int) = (x3 + x2))) (h1 : ((0 : Int) ≤ x2)) (h2 : (x3 = x0)) : ((x0 ≤ (Nat.cast x1 : Int)) ∧ ((Nat.cast x1 : Int) < (x0 + (x2 + (1 : Int))))) := by lia
theorem om169 {x0 : Int} {x1 : Nat} : (¬ ((x0 ≤ (Nat.cast x1 : Int)) ∧ ((Nat.cast x1 : Int) < (x0 + (0 : Int))))) := by lia
theorem om170 {x0 : Nat} {x1 : Int} {x2 : Nat} (h0 : ((x1 ≤ (Nat.cast x2 : Int)) ∧ ((Nat.cast x2 : Int) < (x1 + (Nat.cast x0 : Int))))) : (((1 : Int) - (Nat.cast x0 : Int)) ≤ x1) := by lia
theorem om171 {x0 : Int} {x1 : Nat} {x2 : Nat} {x3 : Nat} (h0 : (x2 < x1)) (h1 : ((x0 ≤ (Nat.cast x2 : Int)) ∧ ((Nat.cast x2 : Int) < (x0 + (Nat.cast x3 : Int))))) : (x0 < (Nat.cast x1 : Int)) := by lia
theorem om172 {x0 : Nat} (h0 : (x0 ≤ (10 : Nat))) : (x0 ≤ (1000000 : Nat)) := by lia
theorem om173 {x0 : Nat} (h0 : (x0 ≤ (4 : Nat))) : (((5 : Int) * (Nat.cast x0 : Int)) ≤ (20 : Int)) := by lia
theorem om174 {x0 : Nat} {x1 : Nat} {x2 : Nat} (h0 : (x2 = x1)) (h1 : (x0 < x2)) : (x0 < x1) := by lia
theorem om175 {x0 : Int} {x1 : Nat} {x2 : Int} {x3 : Nat} (h0 : (x1 ≤ (4 : Nat))) (h1 : (x2 ≤ (10000 : Int))) (h2 : ((2 : Int) ≤ x2)) (h3 : (x3 < x1)) (h4 : (x0 ≤ (x2 + ((5 : Int) * (Nat.cast x3 : Int))))) (h5 : (x2 ≤ x0)) : (x0 ≤ (400000 : Int)) := by lia
theorem om176 {x0 : Nat} (h0 : (((1 : Nat) ≤ x0) ∧ (x0 ≤ (2 : Nat)))) : ((Nat.cast x0 : Int) < (9223372036854775808 : Int)) := by lia
theorem om177 {x0 : Nat} {x1 : Nat} (h0 : (((1 : Nat) ≤ x1) ∧ (x1 ≤ (2 : Nat)))) : (((((5 : Int) * (Nat.cast x0 : Int)) + (1 : Int)) + ((2 : Int) * (Nat.cast x1 : Int))) ≤ ((5 : Int) * ((Nat.cast x0 : Int) + (1 : Int)))) := by lia
theorem om178 {x0 : Nat} {x1 : Nat} : (((((5 : Int) * (Nat.cast x0 : Int)) + (1 : Int)) + ((2 : Int) * (Nat.cast x1 : Int))) ≤ ((((5 : Int) * (Nat.cast x0 : Int)) + (1 : Int)) + ((2 : Int) * (Nat.cast (x1 + (1 : Nat)) : Int)))) := by lia
theorem om179 {x0 : Nat} {x1 : Int} {x2 : Nat} {x3 : Nat} {x4 : Nat} {x5 : Nat} (h0 : (x3 = x4)) (h1 : (x5 = x4)) (h2 : (¬ (((0 : Int) ≤ (x1 + (Nat.cast x2 : Int))) ∧ ((x1 + (Nat.cast x2 : Int)) < (Nat.cast x4 : Int))))) (h3 : (x0 < x5)) : ((Nat.cast x0 : Int) ≠ (x1 + (Nat.cast x2 : Int))) := by lia
theorem om180 {x0 : Nat} {x1 : Nat} {x2 : Nat} (h0 : (x1 ≤ (10 : Nat))) (h1 : (x2 = x1)) (h2 : (x0 = x1)) : ((Nat.cast x0 : Int) < (9223372036854775808 : Int)) := by lia
theorem om181 {x0 : Int} {x1 : Nat} {x2 : Nat} {x3 : Nat} {x4 : Nat} (h0 : (x3 ≤ (10 : Nat))) (h1 : (x4 = x3)) (h2 : (x2 = x3)) (h3 : ((0 : Int) ≤ (x0 + (Nat.cast x1 : Int)))) (h4 : ((x0 + (Nat.cast x1 : Int)) < (Nat.cast x3 : Int))) : ((Int.toNat (x0 + (Nat.cast x1 : Int))) < x2) := by lia
theorem om182 {x0 : Int} {x1 : Nat} (h0 : ((0 : Int) ≤ (x0 + (Nat.cast x1 : Int)))) : ((Nat.cast (Int.toNat (x0 + (Nat.cast x1 : Int))) : Int) = (x0 + (Nat.cast x1 : Int))) := by lia
theorem om183 {x0 : Int} {x1 : Nat} {x2 : Nat} {x3 : Nat} {x4 : Nat} (h0 : (x2 ≤ (10 : Nat))) (h1 : (x3 = x2)) (h2 : (x4 = x2)) (h3 : ((x0 + (Nat.cast x1 : Int)) < (Nat.cast x2 : Int))) : ((x0 + (Nat.cast x1 : Int)) < ((2 : Int) ^ (63 : Nat))) := by lia
theorem om184 {x0 : Nat} {x1 : Nat} (h0 : (((1 : Nat) ≤ x1) ∧ (x1 ≤ (2 : Nat)))) (h1 : (x0 < x1)) : ((Nat.cast x0 : Int) < ((2 : Int) ^ (63 : Nat))) := by lia
theorem om185 {x0 : Int} {x1 : Int} {x2 : Nat} {x3 : Nat} {x4 : Nat} {x5 : Nat} {x6 : Int} (h0 : (x2 ≤ (4 : Nat))) (h1 : (((1 : Nat) ≤ x3) ∧ (x3 ≤ (2 : Nat)))) (h2 : (x4 < x2)) (h3 : (x5 < x3)) (h4 : (x1 ≤ (x6 + ((((5 : Int) * (Nat.cast x4 : Int)) + (1 : Int)) + ((2 : Int) * (Nat.cast x5 : Int)))))) (h5 : (x6 ≤ x1)) (h6 : (((0 : Int) ≤ x0) ∧ (x0 < x6))) : (x0 < x1) := by lia
theorem om186 {x0 : Int} {x1 : Nat} {x2 : Nat} {x3 : Int} {x4 : Nat} {x5 : Nat} (h0 : (x1 ≤ (4 : Nat))) (h1 : (((1 : Nat) ≤ x2) ∧ (x2 ≤ (2 : Nat)))) (h2 : (x3 ≤ (10000 : Int))) (h3 : ((2 : Int) ≤ x3)) (h4 : (x4 < x1)) (h5 : (x5 < x2)) (h6 : (x0 ≤ (x3 + ((((5 : Int) * (Nat.cast x4 : Int)) + (1 : Int)) + ((2 : Int) * (Nat.cast x5 : Int)))))) : (x0 ≤ (300000 : Int)) := by lia
theorem om187 {x0 : Nat} {x1 : Nat} : ((((((5 : Int) * (Nat.cast x0 : Int)) + (1 : Int)) + ((2 : Int) * (Nat.cast x1 : Int))) + (2 : Int)) ≤ ((((5 : Int) * (Nat.cast x0 : Int)) + (1 : Int)) + ((2 : Int) * ((Nat.cast x1 : Int) + (1 : Int))))) := by lia
theorem om188 {x0 : Nat} {x1 : Int} {x2 : Int} {x3 : Nat} {x4 : Nat} {x5 : Nat} {x6 : Nat} (h0 : (((1 : Nat) ≤ x3) ∧ (x3 ≤ (2 : Nat)))) (h1 : (x4 ≤ (10 : Nat))) (h2 : (x5 = x4)) (h3 : ((-(10 : Int)) ≤ x1)) (h4 : (x1 ≤ (10 : Int))) (h5 : (x0 < x3)) (h6 : (x6 = x4)) (h7 : ((0 : Int) ≤ (x1 + (Nat.cast x0 : Int)))) (h8 : ((x1 + (Nat.cast x0 : Int)) < (Nat.cast x4 : Int))) (h9 : (x1 = x2)) : (x0 = (Int.toNat ((Nat.cast (Int.toNat (x1 + (Nat.cast x0 : Int))) : Int) - x2))) := by lia
theorem om189 {x0 : Nat} {x1 : Int} {x2 : Nat} (h0 : ((0 : Int) ≤ (x1 + (Nat.cast x2 : Int)))) (h1 : (x0 ≠ (Int.toNat (x1 + (Nat.cast x2 : Int))))) : ((Nat.cast x0 : Int) ≠ (x1 + (Nat.cast x2 : Int))) := by lia
theorem om190 {x0 : Int} {x1 : Nat} {x2 : Nat} {x3 : Int} {x4 : Nat} {x5 : Nat} (h0 : (x1 ≤ (4 : Nat))) (h1 : (((1 : Nat) ≤ x2) ∧ (x2 ≤ (2 : Nat)))) (h2 : (x3 ≤ (10000 : Int))) (h3 : ((2 : Int) ≤ x3)) (h4 : (x4 < x1)) (h5 : (x5 < x2)) (h6 : (x0 ≤ (x3 + ((((5 : Int) * (Nat.cast x4 : Int)) + (1 : Int)) + ((2 : Int) * (Nat.cast x5 : Int)))))) : (x0 ≤ (400000 : Int)) := by lia
theorem om191 {x0 : Nat} {x1 : Nat} : ((((((5 : Int) * (Nat.cast x0 : Int)) + (1 : Int)) + ((2 : Int) * (Nat.cast x1 : Int))) + (1 : Int)) ≤ ((((5 : Int) * (Nat.cast x0 : Int)) + (1 : Int)) + ((2 : Int) * ((Nat.cast x1 : Int) + (1 : Int))))) := by lia
theorem om192 {x0 : Int} {x1 : Int} {x2 : Int} (h0 : (x2 ≤ x1)) (h1 : (x0 < x2)) : (x0 < x1) := by lia
theorem om193 : ((0 : Int) ≤ ((8 : Int) * (Nat.cast (0 : Nat) : Int))) := by lia
theorem om194 {x0 : Nat} {x1 : Nat} (h0 : (x1 = x0)) (h1 : (x0 ≤ (4 : Nat))) : ((Nat.cast x0 : Int) < (9223372036854775808 : Int)) := by lia
theorem om195 {x0 : Nat} {x1 : Nat} (h0 : (x1 = x0)) (h1 : (x0 ≤ (4 : Nat))) : (x0 < ((2 : Nat) ^ (59 : Nat))) := by lia
theorem om196 {x0 : Nat} {x1 : Nat} {x2 : Nat} (h0 : (x1 = x2)) (h1 : (x0 < x2)) : (x0 < x1) := by lia
theorem om197 {x0 : Nat} {x1 : Nat} {x2 : Nat} {x3 : Nat} (h0 : (x0 < x2)) (h1 : (x3 = x0)) (h2 : (x1 = x2)) : (x0 < x1) := by lia
theorem om198 {x0 : Nat} {x1 : Nat} {x2 : Nat} (h0 : (x1 = x2)) (h1 : (x2 ≤ (4 : Nat))) (h2 : (x0 < x2)) : ((Nat.cast x0 : Int) < ((2 : Int) ^ (63 : Nat))) := by lia
theorem om199 {x0 : Nat} {x1 : Nat} (h0 : (x1 = x0)) : ((0 : Int) ≤ (Nat.cast x0 : Int)) := by lia
theorem om200 {x0 : Nat} {x1 : Nat} {x2 : Nat} {x3 : Nat} (h0 : (((1 : Nat) ≤ x1) ∧ (x1 ≤ (2 : Nat)))) (h1 : (x0 < x1)) (h2 : (x2 = x0)) (h3 : (x3 = x1)) : ((Nat.cast x0 : Int) < ((2 : Int) ^ (63 : Nat))) := by lia
theorem om201 {x0 : Int} {x1 : Int} {x2 : Nat} {x3 : Nat} {x4 : Int} {x5 : Int} {x6 : Nat} (h0 : (x2 = x3)) (h1 : (x3 ≤ (4 : Nat))) (h2 : (x4 ≤ x5)) (h3 : (x6 < x3)) (h4 : (x1 ≤ (x5 + ((2 : Int) * (Nat.cast x6 : Int))))) (h5 : (x5 ≤ x1)) (h6 : (((0 : Int) ≤ x0) ∧ (x0 < x4))) : (x0 < x1) := by lia
theorem om202 {x0 : Int} {x1 : Nat} {x2 : Nat} {x3 : Nat} {x4 : Int} {x5 : Nat} {x6 : Nat} {x7 : Int} {x8 : Nat} {x9 : Nat} (h0 : (x1 = x2)) (h1 : (x2 ≤ (4 : Nat))) (h2 : (((1 : Nat) ≤ x3) ∧ (x3 ≤ (2 : Nat)))) (h3 : (x4 ≤ (10000 : Int))) (h4 : ((2 : Int) ≤ x4)) (h5 : (x5 < x3)) (h6 : (x6 = x5)) (h7 : (x7 ≤ (x4 + ((8 : Int) * (Nat.cast x5 : Int))))) (h8 : (x8 < x2)) (h9 : (x0 ≤ (x7 + ((2 : Int) * (Nat.cast x8 : Int))))) (h10 : (x7 ≤ x0)) (h11 : (x9 = x3)) : (x0 ≤ (400000 : Int)) := by lia
theorem om203 {x0 : Int} {x1 : Nat} {x2 : Nat} {x3 : Nat} {x4 : Int} {x5 : Nat} {x6 : Nat} {x7 : Int} {x8 : Nat} {x9 : Int} {x10 : Nat} (h0 : (x1 = x2)) (h1 : (x2 ≤ (4 : Nat))) (h2 : (((1 : Nat) ≤ x3) ∧ (x3 ≤ (2 : Nat)))) (h3 : (x4 ≤ (10000 : Int))) (h4 : ((2 : Int) ≤ x4)) (h5 : (x5 < x3)) (h6 : (x6 = x5)) (h7 : (x7 ≤ (x4 + ((8 : Int) * (Nat.cast x5 : Int))))) (h8 : (x8 < x2)) (h9 : (x9 ≤ (x7 + ((2 : Int) * (Nat.cast x8 : Int))))) (h10 : (x7 ≤ x9)) (h11 : (x10 = x3)) (h12 : (x0 ≤ (x9 + (1 : Int)))) (h13 : (x9 ≤ x0)) : (x0 ≤ (400000 : Int)) := by lia
theorem om204 {x0 : Nat} {x1 : Nat} {x2 : Nat} (h0 : (x2 = x1)) (h1 : (x1 ≤ (4 : Nat))) : ((((8 : Int) * (Nat.cast x0 : Int)) + ((2 : Int) * (Nat.cast x1 : Int))) ≤ ((8 : Int) * ((Nat.cast x0 : Int) + (1 : Int)))) := by lia
theorem om205 : ((0 : Int) ≤ ((5 : Int) * (Nat.cast (0 : Nat) : Int))) := by lia
theorem om206 {x0 : Nat} {x1 : Nat} {x2 : Nat} (h0 : (x1 = x0)) (h1 : (x0 ≤ (4 : Nat))) (h2 : (x2 = x0)) : (((5 : Int) * (Nat.cast x0 : Int)) ≤ (20 : Int)) := by lia
theorem om207 {x0 : Nat} {x1 : Nat} {x2 : Nat} {x3 : Nat} (h0 : (x1 = x2)) (h1 : (x0 < x2)) (h2 : (x3 = x0)) : (x0 < x1) := by lia
theorem om208 {x0 : Nat} {x1 : Nat} {x2 : Nat} {x3 : Nat} (h0 : (x1 = x2)) (h1 : (x2 ≤ (4 : Nat))) (h2 : (x0 < x2)) (h3 : (x3 = x0)) : ((Nat.cast x0 : Int) < ((2 : Int) ^ (63 : Nat))) := by lia
theorem om209 {x0 : Int} {x1 : Int} {x2 : Nat} {x3 : Nat} {x4 : Nat} {x5 : Nat} {x6 : Int} (h0 : (x2 = x3)) (h1 : (x3 ≤ (4 : Nat))) (h2 : (x4 < x3)) (h3 : (x5 = x4)) (h4 : (x1 ≤ (x6 + ((5 : Int) * (Nat.cast x4 : Int))))) (h5 : (x6 ≤ x1)) (h6 : (((0 : Int) ≤ x0) ∧ (x0 < x6))) : (x0 < x1) := by lia
theorem om210 {x0 : Int} {x1 : Nat} {x2 : Nat} {x3 : Int} {x4 : Nat} {x5 : Nat} (h0 : (x1 = x2)) (h1 : (x2 ≤ (4 : Nat))) (h2 : (x3 ≤ (10000 : Int))) (h3 : ((2 : Int) ≤ x3)) (h4 : (x4 < x2)) (h5 : (x5 = x4)) (h6 : (x0 ≤ (x3 + ((5 : Int) * (Nat.cast x4 : Int))))) (h7 : (x3 ≤ x0)) : (x0 ≤ (400000 : Int)) := by lia
theorem om211 {x0 : Nat} {x1 : Nat} (h0 : (((1 : Nat) ≤ x1) ∧ (x1 ≤ (2 : Nat)))) (h1 : (x0 = x1)) : ((Nat.cast x0 : Int) < (9223372036854775808 : Int)) := by lia
theorem om212 {x0 : Nat} {x1 : Nat} (h0 : (((1 : Nat) ≤ x0) ∧ (x0 ≤ (2 : Nat)))) (h1 : (x1 = x0)) : (x0 ≤ (1000000 : Nat)) := by lia
theorem om213 {x0 : Nat} {x1 : Nat} {x2 : Nat} {x3 : Nat} {x4 : Nat} (h0 : (x1 = x2)) (h1 : (x3 = x2)) (h2 : (x0 < x2)) (h3 : (x4 = x0)) : (x0 < x1) := by lia
theorem om214 {x0 : Nat} {x1 : Nat} {x2 : Nat} {x3 : Nat} (h0 : (((1 : Nat) ≤ x1) ∧ (x1 ≤ (2 : Nat)))) (h1 : (x2 = x1)) (h2 : (x0 < x1)) (h3 : (x3 = x0)) : ((Nat.cast x0 : Int) < ((2 : Int) ^ (63 : Nat))) := by lia
theorem om215 {x0 : Int} {x1 : Int} {x2 : Nat} {x3 : Nat} {x4 : Nat} {x5 : Nat} {x6 : Nat} {x7 : Int} {x8 : Int} {x9 : Int} {x10 : Nat} {x11 : Nat} {x12 : Nat} (h0 : (x2 = x3)) (h1 : (x3 ≤ (4 : Nat))) (h2 : (((1 : Nat) ≤ x4) ∧ (x4 ≤ (2 : Nat)))) (h3 : (x5 < x3)) (h4 : (x6 = x5)) (h5 : (x7 ≤ (x8 + ((5 : Int) * (Nat.cast x5 : Int))))) (h6 : (x8 ≤ x7)) (h7 : (x9 ≤ (x7 + (1 : Int)))) (h8 : (x7 ≤ x9)) (h9 : (x10 = x4)) (h10 : (x11 < x4)) (h11 : (x12 = x11)) (h12 : (x1 ≤ (x9 + ((2 : Int) * (Nat.cast x11 : Int))))) (h13 : (x9 ≤ x1)) (h14 : (((0 : Int) ≤ x0) ∧ (x0 < x8))) : (x0 < x1) := by lia
theorem om216 {x0 : Int} {x1 : Nat} {x2 : Nat} {x3 : Nat} {x4 : Int} {x5 : Nat} {x6 : Nat} {x7 : Int} {x8 : Int} {x9 : Nat} {x10 : Nat} {x11 : Nat} (h0 : (x1 = x2)) (h1 : (x2 ≤ (4 : Nat))) (h2 : (((1 : Nat) ≤ x3) ∧ (x3 ≤ (2 : Nat)))) (h3 : (x4 ≤ (10000 : Int))) (h4 : ((2 : Int) ≤ x4)) (h5 : (x5 < x2)) (h6 : (x6 = x5)) (h7 : (x7 ≤ (x4 + ((5 : Int) * (Nat.cast x5 : Int))))) (h8 : (x4 ≤ x7)) (h9 : (x8 ≤ (x7 + (1 : Int)))) (h10 : (x7 ≤ x8)) (h11 : (x9 = x3)) (h12 : (x10 < x3)) (h13 : (x11 = x10)) (h14 : (x0 ≤ (x8 + ((2 : Int) * (Nat.cast x10 : Int))))) (h15 : (x8 ≤ x0)) : (x0 ≤ (300000 : Int)) := by lia
theorem om217 {x0 : Nat} : ((((2 : Int) * (Nat.cast x0 : Int)) + (2 : Int)) ≤ ((2 : Int) * ((Nat.cast x0 : Int) + (1 : Int)))) := by lia
theorem om218 {x0 : Nat} {x1 : Nat} {x2 : Nat} {x3 : Nat} (h0 : (x1 = x2)) (h1 : (x2 ≤ (4 : Nat))) (h2 : (x3 < x2)) (h3 : (x0 = x3)) : (x0 ≤ (1000000 : Nat)) := by lia
theorem om219 {x0 : Nat} {x1 : Nat} {x2 : Nat} {x3 : Nat} (h0 : (((1 : Nat) ≤ x1) ∧ (x1 ≤ (2 : Nat)))) (h1 : (x2 = x1)) (h2 : (x3 = x1)) : (((((5 : Int) * (Nat.cast x0 : Int)) + (1 : Int)) + ((2 : Int) * (Nat.cast x1 : Int))) ≤ ((5 : Int) * ((Nat.cast x0 : Int) + (1 : Int)))) := by lia
theorem om220 {x0 : Nat} {x1 : Nat} {x2 : Nat} {x3 : Nat} {x4 : Nat} (h0 : (x2 = x3)) (h1 : (x4 = x3)) (h2 : (x0 < x3)) (h3 : (x1 = x3)) : (x0 < x1) := by lia
theorem om221 {x0 : Int} {x1 : Int} {x2 : Int} (h0 : (x1 ≤ (x2 + (1 : Int)))) (h1 : (x2 ≤ x1)) (h2 : (x0 < x2)) : (x0 < x1) := by lia
theorem om222 {x0 : Nat} {x1 : Nat} {x2 : Nat} (h0 : (x2 = x1)) (h1 : (x0 < (x1 + (1 : Nat)))) (h2 : (¬ (x0 < x1))) : (x0 = x1) := by lia
theorem om223 {x0 : Nat} {x1 : Nat} (h0 : (x0 = x1)) : (x0 ≤ x1) := by lia
theorem om224 {x0 : Nat} {x1 : Nat} (h0 : (x1 = x0)) : ((x0 - x1) = (0 : Nat)) := by lia
theorem om225 {x0 : Nat} {x1 : Nat} {x2 : Nat} {x3 : Nat} (h0 : (x2 = x3)) (h1 : (x1 = x3)) (h2 : (x0 < x3)) : (x0 < x1) := by lia
theorem om226 {x0 : Nat} (h0 : (x0 ≤ (63 : Nat))) : ((Nat.cast x0 : Int) < (9223372036854775808 : Int)) := by lia
theorem om227 {x0 : Int} (h0 : (((0 : Int) < x0) ∧ (x0 ≤ (100 : Int)))) : (x0 ≠ (0 : Int)) := by lia
theorem om228 {x0 : Int} (h0 : ((0 : Int) ≤ x0)) (h1 : (x0 < (2147483647 : Int))) : (x0 < ((2 : Int) ^ (40 : Nat))) := by lia
theorem om229 {x0 : Int} {x1 : Nat} (h0 : ((0 : Int) ≤ x0)) (h1 : (x0 ≤ (Nat.cast x1 : Int))) (h2 : (x1 ≤ (63 : Nat))) (h3 : (¬ (x0 = (Nat.cast x1 : Int)))) : ((Int.toNat x0) < x1) := by lia
theorem om230 {x0 : Int} (h0 : ((0 : Int) ≤ x0)) : ((Nat.cast (Int.toNat x0) : Int) = x0) := by lia
theorem om231 {x0 : Int} {x1 : Nat} (h0 : (x0 ≤ (Nat.cast x1 : Int))) (h1 : (x1 ≤ (63 : Nat))) : (x0 < ((2 : Int) ^ (63 : Nat))) := by lia
theorem om232 {x0 : Int} (h0 : ((0 : Int) ≤ x0)) : ((0 : Int) ≤ (x0 + (1 : Int))) := by lia
theorem om233 {x0 : Int} {x1 : Nat} (h0 : (x0 ≤ (Nat.cast x1 : Int))) (h1 : (¬ (x0 = (Nat.cast x1 : Int)))) : ((x0 + (1 : Int)) ≤ (Nat.cast x1 : Int)) := by lia
theorem om234 {x0 : Nat} : (¬ ((0 : Int) ≤ ((-(Nat.cast x0 : Int)) - (1 : Int)))) := by lia
theorem om235 {x0 : Nat} : (((-((-(Nat.cast x0 : Int)) - (1 : Int))) - (1 : Int)) = (Nat.cast x0 : Int)) := by lia
theorem om236 {x0 : Nat} {x1 : Nat} : ((((x0 / ((2 : Nat) ^ x1)) % (2 : Nat)) = (0 : Nat)) ∨ (((x0 / ((2 : Nat) ^ x1)) % (2 : Nat)) = (1 : Nat))) := by lia
theorem om237 {x0 : Nat} {x1 : Nat} (h0 : (x1 < ((2 : Nat) ^ x0))) : (((Nat.cast (((2 : Nat) ^ x0) - (1 : Nat)) : Int) - (Nat.cast x1 : Int)) = (Nat.cast ((((2 : Nat) ^ x0) - (1 : Nat)) - x1) : Int)) := by lia
theorem om238 {x0 : Nat} {x1 : Nat} (h0 : (x1 < ((2 : Nat) ^ x0))) : (((((2 : Nat) ^ x0) - (1 : Nat)) - x1) = (((2 : Nat) ^ x0) - (x1 + (1 : Nat)))) := by lia
theorem om239 {x0 : Nat} : ((((1 : Nat) + ((2 : Nat) * x0)) / (2 : Nat)) = x0) := by lia
theorem om240 {x0 : Nat} {x1 : Nat} (h0 : (x0 < ((2 : Nat) ^ x1))) : (((2 : Nat) * x0) < (((2 : Nat) ^ x1) * (2 : Nat))) := by lia
theorem om241 {x0 : Nat} {x1 : Nat} (h0 : (x0 < ((2 : Nat) ^ x1))) : (((1 : Nat) + ((2 : Nat) * x0)) < (((2 : Nat) ^ x1) * (2 : Nat))) := by lia
theorem om242 {x0 : Nat} {x1 : Nat} {x2 : Nat} : ((x0 + ((2 : Nat) * (x1 + ((2 : Nat) ^ x2)))) = ((x0 + ((2 : Nat) * x1)) + (((2 : Nat) ^ x2) * (2 : Nat)))) := by lia
theorem om243 {x0 : Nat} {x1 : Nat} (h0 : (x0 < ((2 : Nat) ^ x1))) : ((x0 + ((2 : Nat) ^ x1)) < (((2 : Nat) ^ x1) * (2 : Nat))) := by lia
theorem om244 {x0 : Nat} {x1 : Nat} (h0 : (x0 < ((2 : Nat) ^ x1))) : ((x0 + (0 : Nat)) < (((2 : Nat) ^ x1) * (2 : Nat))) := by lia
theorem om245 {x0 : Nat} {x1 : Nat} (h0 : (x0 < x1)) : (x0 < (x1 + (1 : Nat))) := by lia
theorem om246 {x0 : Nat} {x1 : Nat} (h0 : (¬ (x0 = x1))) (h1 : (¬ (x0 < x1))) : (¬ (x0 < (x1 + (1 : Nat)))) := by lia
theorem om247 {x0 : Nat} {x1 : Nat} (h0 : (¬ (x1 = x0))) (h1 : (¬ (x1 < x0))) : ((x0 + (1 : Nat)) ≤ x1) := by lia
theorem om248 {x0 : Nat} (h0 : (((1 : Nat) ≤ x0) ∧ (x0 ≤ (10 : Nat)))) : ((Nat.cast x0 : Int) < (9223372036854775808 : Int)) := by lia
theorem om249 {x0 : Nat} (h0 : (((1 : Nat) ≤ x0) ∧ (x0 ≤ (10 : Nat)))) : (((0 : Nat) < x0) ∧ ((Nat.cast x0 : Int) ≤ (100 : Int))) := by lia
theorem om250 {x0 : Int} {x1 : Nat} (h0 : (((1 : Nat) ≤ x1) ∧ (x1 ≤ (10 : Nat)))) (h1 : (x0 < (Nat.cast x1 : Int))) : ((Int.toNat x0) < x1) := by lia
theorem om251 {x0 : Int} {x1 : Nat} (h0 : (((1 : Nat) ≤ x1) ∧ (x1 ≤ (10 : Nat)))) (h1 : (x0 < (Nat.cast x1 : Int))) : (x0 < ((2 : Int) ^ (63 : Nat))) := by lia
theorem om252 {x0 : Prop} {x1 : Int} (h0 : ((0 : Int) ≤ x1)) (h1 : (x1 < (2 : Int))) : (x0 ∨ ((x1 = (0 : Int)) ∨ (x1 = (1 : Int)))) := by lia
theorem om253 {x0 : Nat} (h0 : ((0 : Nat) < ((2 : Nat) ^ x0))) : ((Nat.cast ((2 : Nat) ^ x0) : Int) ≠ (0 : Int)) := by lia
theorem om254 {x0 : Nat} (h0 : (x0 ≤ (3 : Nat))) : ((Nat.cast x0 : Int) < (9223372036854775808 : Int)) := by lia
theorem om255 {x0 : Nat} (h0 : (x0 ≤ (3 : Nat))) : ((Nat.cast x0 : Int) ≤ (1000000 : Int)) := by lia
theorem om256 {x0 : Nat} (h0 : (((2 : Nat) ^ x0) ≤ ((2 : Nat) ^ (3 : Nat)))) : (((2 : Nat) ^ x0) < ((2 : Nat) ^ (59 : Nat))) := by lia
theorem om257 {x0 : Nat} {x1 : Nat} (h0 : (x0 < ((2 : Nat) ^ x1))) (h1 : (((2 : Nat) ^ x1) ≤ ((2 : Nat) ^ (3 : Nat)))) : (x0 < (64 : Nat)) := by lia
theorem om258 {x0 : Nat} (h0 : (x0 < (64 : Nat))) : ((0 : Int) ≤ (Nat.cast x0 : Int)) := by lia
theorem om259 {x0 : Nat} (h0 : (x0 < (64 : Nat))) : ((Nat.cast x0 : Int) ≤ (1000000 : Int)) := by lia
theorem om260 {x0 : Nat} (h0 : (x0 ≤ (3 : Nat))) : (x0 < ((2 : Nat) ^ (59 : Nat))) := by lia
theorem om261 {x0 : Nat} (h0 : ((0 : Nat) < ((2 : Nat) ^ x0))) : ((((2 : Nat) ^ x0) - (1 : Nat)) < ((2 : Nat) ^ x0)) := by lia
theorem om262 {x0 : Nat} {x1 : Nat} (h0 : (x0 < x1)) : ((0 : Int) ≤ (Nat.cast x0 : Int)) := by lia
theorem om263 {x0 : Nat} {x1 : Nat} (h0 : (x1 ≤ (3 : Nat))) (h1 : (x0 < x1)) : ((Nat.cast x0 : Int) ≤ (1000000 : Int)) := by lia
theorem om264 {x0 : Nat} {x1 : Nat} (h0 : (x1 ≤ (3 : Nat))) (h1 : (x0 < x1)) : (x0 < (64 : Nat)) := by lia
theorem om265 {x0 : Nat} {x1 : Nat} (h0 : (x1 ≤ (3 : Nat))) (h1 : (x0 < x1)) : ((Nat.cast x0 : Int) < ((2 : Int) ^ (63 : Nat))) := by lia
theorem om266 {x0 : Nat} {x1 : Nat} {x2 : Nat} {x3 : Nat} (h0 : (x2 < x3)) (h1 : (x1 < ((2 : Nat) ^ x0))) : (((((2 : Nat) ^ x0) - (1 : Nat)) - x1) < ((2 : Nat) ^ x0)) := by lia
theorem om267 {x0 : Nat} {x1 : Nat} (h0 : (¬ (x0 = x1))) : ((x0 < x1) ↔ (x0 < (x1 + (1 : Nat)))) := by lia
theorem om268 {x0 : Nat} (h0 : (x0 ≤ (5 : Nat))) : ((Nat.cast x0 : Int) < (9223372036854775808 : Int)) := by lia
theorem om269 {x0 : Nat} (h0 : (x0 ≤ (5 : Nat))) : (x0 ≤ (1000000 : Nat)) := by lia
theorem om270 {x0 : Nat} {x1 : Nat} {x2 : Nat} (h0 : (x1 ≤ (5 : Nat))) (h1 : (x0 < x1)) (h2 : (x2 = x0)) : ((Nat.cast x0 : Int) < ((2 : Int) ^ (63 : Nat))) := by lia
theorem om271 {x0 : Nat} {x1 : Nat} (h0 : (x0 < x1)) (h1 : (x1 ≤ (60 : Nat))) : ((Nat.cast x0 : Int) ≤ (1000000 : Int)) := by lia
theorem om272 {x0 : Nat} {x1 : Nat} (h0 : (x0 < x1)) (h1 : (x1 ≤ (60 : Nat))) : (x0 < (64 : Nat)) := by lia
theorem om273 {x0 : Nat} {x1 : Nat} {x2 : Nat} (h0 : (x1 ≤ (5 : Nat))) (h1 : (x0 < x1)) (h2 : (x2 = x0)) : ((Nat.cast x0 : Int) ≤ (1000000 : Int)) := by lia
theorem om274 {x0 : Nat} {x1 : Nat} {x2 : Nat} (h0 : (x0 < x1)) (h1 : (x2 = x0)) : ((min x0 x1) = x0) := by lia
theorem om275 {x0 : Int} {x1 : Int} (h0 : (x0 < (x1 + (1 : Int)))) (h1 : (¬ (x0 = x1))) : (x0 < x1) := by lia
theorem om276 {x0 : Nat} {x1 : Int} (h0 : (((1 : Nat) ≤ x0) ∧ (x0 ≤ (5 : Nat)))) (h1 : (x1 = ((2 : Int) + (Nat.cast x0 : Int)))) : (x0 ≤ (1000000 : Nat)) := by lia
theorem om277 {x0 : Nat} {x1 : Nat} {x2 : Int} (h0 : (((1 : Nat) ≤ x1) ∧ (x1 ≤ (5 : Nat)))) (h1 : (x2 = ((2 : Int) + (Nat.cast x1 : Int)))) (h2 : (x0 = x1)) : ((Nat.cast x0 : Int) < (9223372036854775808 : Int)) := by lia
theorem om278 {x0 : Nat} {x1 : Nat} {x2 : Int} (h0 : (((1 : Nat) ≤ x1) ∧ (x1 ≤ (5 : Nat)))) (h1 : (x2 = ((2 : Int) + (Nat.cast x1 : Int)))) (h2 : (x0 = x1)) : ((Nat.cast x0 : Int) ≤ (1000000 : Int)) := by lia
theorem om279 {x0 : Nat} (h0 : (((2 : Nat) ^ x0) ≤ (32 : Nat))) (h1 : ((0 : Nat) < ((2 : Nat) ^ x0))) : ((0 : Int) ≤ (Nat.cast ((2 : Nat) ^ x0) : Int)) := by lia
theorem om280 {x0 : Nat} (h0 : (((2 : Nat) ^ x0) ≤ (32 : Nat))) (h1 : ((0 : Nat) < ((2 : Nat) ^ x0))) : ((Nat.cast ((2 : Nat) ^ x0) : Int) ≤ (1000000 : Int)) := by lia
theorem om281 {x0 : Nat} (h0 : ((0 : Nat) < ((2 : Nat) ^ ((2 : Nat) ^ x0)))) : (((Nat.cast ((2 : Nat) ^ ((2 : Nat) ^ x0)) : Int) - (1 : Int)) = (Nat.cast (((2 : Nat) ^ ((2 : Nat) ^ x0)) - (1 : Nat)) : Int)) := by lia
theorem om282 {x0 : Int} (h0 : ((0 : Int) ≤ x0)) (h1 : (x0 < (2 : Int))) : ((x0 = (0 : Int)) ∨ (x0 = (1 : Int))) := by lia
theorem om283 {x0 : Nat} (h0 : ((0 : Nat) < ((2 : Nat) ^ ((2 : Nat) ^ x0)))) : ((((2 : Nat) ^ ((2 : Nat) ^ x0)) - (1 : Nat)) < ((2 : Nat) ^ ((2 : Nat) ^ x0))) := by lia
theorem om284 {x0 : Nat} {x1 : Int} {x2 : Nat} (h0 : (((1 : Nat) ≤ x0) ∧ (x0 ≤ (5 : Nat)))) (h1 : (x1 = ((2 : Int) + (Nat.cast x0 : Int)))) (h2 : (x2 = x0)) : (x0 < ((2 : Nat) ^ (59 : Nat))) := by lia
theorem om285 {x0 : Nat} (h0 : (((2 : Nat) ^ x0) ≤ (32 : Nat))) (h1 : ((0 : Nat) < ((2 : Nat) ^ x0))) : ((Nat.cast ((2 : Nat) ^ x0) : Int) < ((2 : Int) ^ (60 : Nat))) := by lia
theorem om286 {x0 : Nat} (h0 : (((2 : Nat) ^ x0) ≤ (32 : Nat))) (h1 : ((0 : Nat) < ((2 : Nat) ^ x0))) : ((-((2 : Int) ^ (60 : Nat))) < (Nat.cast ((2 : Nat) ^ x0) : Int)) := by lia
theorem om287 {x0 : Nat} (h0 : (((2 : Nat) ^ x0) ≤ (32 : Nat))) (h1 : ((0 : Nat) < ((2 : Nat) ^ x0))) : (((2 : Nat) ^ x0) ≤ (1000000 : Nat)) := by lia
theorem om288 {x0 : Nat} {x1 : Nat} {x2 : Int} {x3 : Nat} (h0 : (((1 : Nat) ≤ x1) ∧ (x1 ≤ (5 : Nat)))) (h1 : (x2 = ((2 : Int) + (Nat.cast x1 : Int)))) (h2 : (x3 = x1)) (h3 : (x0 < x1)) : ((Nat.cast x0 : Int) ≤ (1000000 : Int)) := by lia
theorem om289 {x0 : Nat} {x1 : Nat} {x2 : Int} {x3 : Nat} (h0 : (((1 : Nat) ≤ x1) ∧ (x1 ≤ (5 : Nat)))) (h1 : (x2 = ((2 : Int) + (Nat.cast x1 : Int)))) (h2 : (x3 = x1)) (h3 : (x0 < x1)) : (x0 < (64 : Nat)) := by lia
theorem om290 {x0 : Nat} {x1 : Nat} (h0 : (((2 : Nat) ^ x1) ≤ (32 : Nat))) (h1 : ((0 : Nat) < ((2 : Nat) ^ x1))) (h2 : (x0 < ((2 : Nat) ^ x1))) : ((Nat.cast x0 : Int) ≤ (1000000 : Int)) := by lia
theorem om291 {x0 : Nat} {x1 : Nat} {x2 : Int} {x3 : Nat} (h0 : (((1 : Nat) ≤ x1) ∧ (x1 ≤ (5 : Nat)))) (h1 : (x2 = ((2 : Int) + (Nat.cast x1 : Int)))) (h2 : (x3 = x1)) (h3 : (x0 < x1)) : ((Nat.cast x0 : Int) < ((2 : Int) ^ (63 : Nat))) := by lia
theorem om292 {x0 : Nat} {x1 : Nat} {x2 : Int} {x3 : Nat} {x4 : Nat} (h0 : (((1 : Nat) ≤ x1) ∧ (x1 ≤ (5 : Nat)))) (h1 : (x2 = ((2 : Int) + (Nat.cast x1 : Int)))) (h2 : (x3 = x1)) (h3 : (x4 < x1)) (h4 : ((Nat.cast x0 : Int) ≤ ((2 : Int) + (Nat.cast x4 : Int)))) : (x0 ≤ (1000000 : Nat)) := by lia
theorem om293 {x0 : Nat} : ((0 : Int) ≤ ((2 : Int) + (Nat.cast x0 : Int))) := by lia
theorem om294 {x0 : Nat} {x1 : Nat} {x2 : Nat} (h0 : ((Nat.cast x2 : Int) ≤ ((2 : Int) + (Nat.cast x1 : Int)))) (h1 : (x0 ≤ (x2 + (1 : Nat)))) : ((Nat.cast x0 : Int) ≤ ((2 : Int) + (Nat.cast (x1 + (1 : Nat)) : Int))) := by lia
theorem om295 {x0 : Nat} (h0 : (x0 = (1 : Nat))) : (x0 ≤ (3 : Nat)) := by lia
theorem om296 {x0 : Nat} (h0 : (x0 = (2 : Nat))) : (x0 ≤ (3 : Nat)) := by lia
theorem om297 {x0 : Nat} (h0 : (x0 = (3 : Nat))) : (x0 ≤ (3 : Nat)) := by lia
theorem om298 {x0 : Nat} (h0 : (x0 ≤ (3 : Nat))) : (x0 ≤ (1000000 : Nat)) := by lia
theorem om299 {x0 : Nat} {x1 : Nat} {x2 : Prop} {x3 : Prop} (h0 : (x2 ∧ x3)) (h1 : (x0 = x1)) : (x0 ≤ x1) := by lia
theorem om300 {x0 : Nat} {x1 : Nat} (h0 : (x1 ≤ (3 : Nat))) (h1 : (x0 = x1)) : (x0 ≤ (3 : Nat)) := by lia
theorem om301 {x0 : Nat} (h0 : (((2 : Nat) ^ x0) ≤ (32 : Nat))) (h1 : ((0 : Nat) < ((2 : Nat) ^ x0))) : (((2 : Nat) ^ x0) ≤ (40 : Nat)) := by lia
theorem om302 {x0 : Nat} {x1 : Int} {x2 : Int} {x3 : Nat} {x4 : Nat} {x5 : Nat} {x6 : Nat} (h0 : (x1 ≤ (10000 : Int))) (h1 : (x2 = ((2 : Int) + (Nat.cast x3 : Int)))) (h2 : ((2 : Int) ≤ x1)) (h3 : (x4 = x3)) (h4 : (x1 = (x2 + (Nat.cast x5 : Int)))) (h5 : ((Nat.cast x0 : Int) ≤ (x2 + (Nat.cast x6 : Int)))) (h6 : (x6 < x5)) : (x0 ≤ (1000000 : Nat)) := by lia
theorem om303 {x0 : Int} {x1 : Nat} : ((x0 + (Nat.cast (x1 + (1 : Nat)) : Int)) = ((x0 + (Nat.cast x1 : Int)) + (1 : Int))) := by lia
theorem om304 {x0 : Int} {x1 : Nat} {x2 : Nat} {x3 : Nat} {x4 : Nat} (h0 : (x0 = ((2 : Int) + (Nat.cast x2 : Int)))) (h1 : (x3 = x2)) (h2 : ((Nat.cast x4 : Int) ≤ (x0 + (Nat.cast x1 : Int)))) : ((0 : Int) ≤ (x0 + (Nat.cast x1 : Int))) := by lia
theorem om305 {x0 : Nat} {x1 : Int} {x2 : Nat} {x3 : Nat} {x4 : Nat} {x5 : Nat} (h0 : (x1 = ((2 : Int) + (Nat.cast x3 : Int)))) (h1 : (x4 = x3)) (h2 : ((Nat.cast x5 : Int) ≤ (x1 + (Nat.cast x2 : Int)))) (h3 : (x0 ≤ (x5 + (1 : Nat)))) : ((Nat.cast x0 : Int) ≤ (x1 + (Nat.cast (x2 + (1 : Nat)) : Int))) := by lia
theorem om306 {x0 : Nat} (h0 : (x0 ≤ (100 : Nat))) : (x0 ≤ (1000000 : Nat)) := by lia
theorem om307 {x0 : Int} {x1 : Int} (h0 : (x1 ≤ x0)) (h1 : ((0 : Int) < x1)) : ((0 : Int) < x0) := by lia
theorem om308 {x0 : Int} (h0 : ((2 : Int) ≤ x0)) : ((0 : Int) ≤ x0) := by lia
theorem om309 {x0 : Int} (h0 : ((2 : Int) ≤ x0)) : ((0 : Int) ≤ ((2 : Int) * x0)) := by lia
theorem om310 {x0 : Nat} {x1 : Int} {x2 : Int} (h0 : (x2 ≤ x1)) (h1 : (((5 : Int) + (Nat.cast x0 : Int)) ≤ x2)) : (((5 : Int) + (Nat.cast x0 : Int)) ≤ x1) := by lia
theorem om311 {x0 : Nat} {x1 : Int} {x2 : Nat} (h0 : (((5 : Int) + (Nat.cast x2 : Int)) ≤ x1)) (h1 : (x0 < (x2 + (3 : Nat)))) : (((2 : Int) + (Nat.cast x0 : Int)) < x1) := by lia
theorem om312 {x0 : Nat} : (¬ (((2 : Int) + (Nat.cast x0 : Int)) = (1 : Int))) := by lia
theorem om313 {x0 : Nat} : ((2 : Int) ≤ ((2 : Int) + (Nat.cast x0 : Int))) := by lia
theorem om314 {x0 : Nat} : ((Int.toNat (((2 : Int) + (Nat.cast x0 : Int)) - (2 : Int))) = x0) := by lia
theorem om315 {x0 : Int} {x1 : Nat} {x2 : Nat} (h0 : (x1 < x2)) : ((x0 ≤ (x0 + (Nat.cast x1 : Int))) ∧ ((x0 + (Nat.cast x1 : Int)) < (x0 + (Nat.cast x2 : Int)))) := by lia
theorem om316 {x0 : Int} {x1 : Int} {x2 : Nat} (h0 : (((2 : Int) ≤ x0) ∧ (x0 < ((2 : Int) + (Nat.cast x2 : Int))))) (h1 : (((5 : Int) + (Nat.cast x2 : Int)) ≤ x1)) : (((0 : Int) ≤ x0) ∧ (x0 < x1)) := by lia
theorem om317 {x0 : Nat} {x1 : Nat} {x2 : Int} (h0 : ((x2 + (Nat.cast x0 : Int)) = (x2 + (Nat.cast x1 : Int)))) : (x0 = x1) := by lia
theorem om318 {x0 : Nat} {x1 : Nat} {x2 : Nat} (h0 : (x0 = x2)) (h1 : (¬ (x1 < x2))) : (x0 ≤ x1) := by lia
theorem om319 {x0 : Nat} {x1 : Nat} {x2 : Nat} {x3 : Nat} (h0 : (x1 = x2)) (h1 : (x3 = x2)) (h2 : (x0 < x2)) : (x0 < x1) := by lia
theorem om320 {x0 : Nat} {x1 : Nat} {x2 : Nat} {x3 : Nat} (h0 : (x0 = x2)) (h1 : (x3 = x2)) (h2 : (¬ (x1 < x2))) : (x0 ≤ x1) := by lia
theorem om321 {x0 : Nat} {x1 : Nat} {x2 : Nat} {x3 : Nat} (h0 : (x2 = x3)) (h1 : (x0 = x3)) (h2 : (¬ (x1 < x3))) : (x0 ≤ x1) := by lia
theorem om323 {x0 : Nat} {x1 : Nat} (h0 : (x1 ≤ (100 : Nat))) (h1 : (x0 ≤ ((40 : Nat) * x1))) : (x0 ≤ ((2 : Nat) ^ (20 : Nat))) := by lia
theorem om324 {x0 : Nat} {x1 : Nat} {x2 : Prop} {x3 : Prop} (h0 : (x2 ∧ (x3 ∧ (x0 ≤ x1)))) : ((min x0 x1) = x0) := by lia
theorem om325 {x0 : Int} {x1 : Nat} {x2 : Nat} : (((x0 ≤ (Nat.cast x1 : Int)) ∧ ((Nat.cast x1 : Int) < (x0 + (Nat.cast (x2 + (1 : Nat)) : Int)))) ↔ (((x0 ≤ (Nat.cast x1 : Int)) ∧ ((Nat.cast x1 : Int) < (x0 + (Nat.cast x2 : Int)))) ∨ ((Nat.cast x1 : Int) = (x0 + (Nat.cast x2 : Int))))) := by lia
theorem om326 {x0 : Int} {x1 : Nat} : (¬ ((x0 ≤ (Nat.cast x1 : Int)) ∧ ((Nat.cast x1 : Int) < (x0 + (Nat.cast (0 : Nat) : Int))))) := by lia
theorem om327 {x0 : Int} {x1 : Nat} {x2 : Nat} (h0 : ((Nat.cast x2 : Int) = (x0 + (Nat.cast x1 : Int)))) : ((0 : Int) ≤ (x0 + (Nat.cast x1 : Int))) := by lia
theorem om328 {x0 : Int} {x1 : Nat} {x2 : Nat} {x3 : Nat} (h0 : (x3 < x2)) (h1 : ((Nat.cast x3 : Int) = (x0 + (Nat.cast x1 : Int)))) : ((x0 + (Nat.cast x1 : Int)) < (Nat.cast x2 : Int)) := by lia
theorem om329 {x0 : Nat} {x1 : Int} {x2 : Nat} (h0 : ((0 : Int) ≤ (x1 + (Nat.cast x2 : Int)))) (h1 : (x0 = (Int.toNat (x1 + (Nat.cast x2 : Int))))) : ((Nat.cast x0 : Int) = (x1 + (Nat.cast x2 : Int))) := by lia
theorem om330 {x0 : Nat} {x1 : Int} {x2 : Nat} (h0 : (¬ (x0 = (Int.toNat (x1 + (Nat.cast x2 : Int)))))) : (¬ ((Nat.cast x0 : Int) = (x1 + (Nat.cast x2 : Int)))) := by lia
theorem om331 {x0 : Nat} (h0 : (x0 < ((2 : Nat) ^ (1 : Nat)))) : (((-(10 : Int)) ≤ ((Nat.cast x0 : Int) - ((2 : Int) ^ (1 : Nat)))) ∧ (((Nat.cast x0 : Int) - ((2 : Int) ^ (1 : Nat))) ≤ (10 : Int))) := by lia
theorem om332 {x0 : Nat} (h0 : (x0 < ((2 : Nat) ^ (1 : Nat)))) : (((-(10 : Int)) ≤ (Nat.cast x0 : Int)) ∧ ((Nat.cast x0 : Int) ≤ (10 : Int))) := by lia
theorem om333 {x0 : Nat} (h0 : (x0 < ((2 : Nat) ^ (2 : Nat)))) : (((-(10 : Int)) ≤ ((Nat.cast x0 : Int) - ((2 : Int) ^ (2 : Nat)))) ∧ (((Nat.cast x0 : Int) - ((2 : Int) ^ (2 : Nat))) ≤ (10 : Int))) := by lia
theorem om334 {x0 : Nat} (h0 : (x0 < ((2 : Nat) ^ (2 : Nat)))) : (((-(10 : Int)) ≤ (Nat.cast x0 : Int)) ∧ ((Nat.cast x0 : Int) ≤ (10 : Int))) := by lia
theorem om335 {x0 : Nat} (h0 : (x0 ≤ (63 : Nat))) : (x0 ≤ (1000 : Nat)) := by lia
theorem om336 {x0 : Nat} : ((min (63 : Nat) x0) ≤ (63 : Nat)) := by lia
theorem om337 {x0 : Nat} (h0 : (x0 ≤ (63 : Nat))) : ((0 : Int) ≤ (Nat.cast x0 : Int)) := by lia
theorem om338 {x0 : Int} (h0 : (((0 : Int) ≤ x0) ∧ (x0 < (100003 : Int)))) : ((0 : Int) ≤ (x0 * (7 : Int))) := by lia
theorem om339 {x0 : Int} (h0 : (((0 : Int) ≤ x0) ∧ (x0 < (100003 : Int)))) : ((x0 * (7 : Int)) < ((2 : Int) ^ (40 : Nat))) := by lia
theorem om340 {x0 : Int} (h0 : ((0 : Int) ≤ x0)) (h1 : (x0 < (2 : Int))) : (((1 : Int) + x0) = (Nat.cast (Int.toNat ((1 : Int) + x0)) : Int)) := by lia
theorem om341 {x0 : Nat} {x1 : Int} (h0 : ((0 : Int) ≤ x1)) (h1 : (x1 < (2 : Int))) (h2 : (((1 : Int) + x1) = (Nat.cast x0 : Int))) : ((x0 = (1 : Nat)) ∨ (x0 = (2 : Nat))) := by lia
theorem om342 {x0 : Nat} (h0 : ((x0 = (1 : Nat)) ∨ (x0 = (2 : Nat)))) : (x0 ≤ (100 : Nat)) := by lia
theorem om343 {x0 : Nat} : ((((2 : Int) + (Nat.cast x0 : Int)) + (Nat.cast (3 : Nat) : Int)) = ((5 : Int) + (Nat.cast x0 : Int))) := by lia
theorem om344 {x0 : Nat} : ((2 : Int) ≤ ((5 : Int) + (Nat.cast x0 : Int))) := by lia
theorem om345 {x0 : Int} (h0 : ((0 : Int) ≤ x0)) (h1 : (x0 < (2 : Int))) : ((((1 : Int) - ((2 : Int) * x0)) = (1 : Int)) ∨ (((1 : Int) - ((2 : Int) * x0)) = (-(1 : Int)))) := by lia
theorem om346 {x0 : Int} (h0 : ((0 : Int) ≤ x0)) (h1 : (x0 < (5 : Int))) : (((-(2 : Int)) ≤ (x0 - (2 : Int))) ∧ ((x0 - (2 : Int)) ≤ (2 : Int))) := by lia
theorem om347 {x0 : Nat} {x1 : Int} (h0 : ((0 : Int) ≤ x1)) (h1 : (x1 < (2 : Int))) (h2 : (((1 : Int) + x1) = (Nat.cast x0 : Int))) : (((1 : Nat) ≤ x0) ∧ (x0 ≤ (2 : Nat))) := by lia
theorem om348 {x0 : Int} {x1 : Nat} (h0 : ((((2 : Int) + (Nat.cast x1 : Int)) ≤ x0) ∧ (x0 < (((2 : Int) + (Nat.cast x1 : Int)) + (Nat.cast (3 : Nat) : Int))))) : (((0 : Int) ≤ x0) ∧ (x0 < ((5 : Int) + (Nat.cast x1 : Int)))) := by lia
theorem om349 {x0 : Int} {x1 : Nat} (h0 : (x0 = (0 : Int))) : (((0 : Int) ≤ x0) ∧ (x0 < ((5 : Int) + (Nat.cast x1 : Int)))) := by lia
theorem om350 {x0 : Int} {x1 : Nat} (h0 : (x0 = (1 : Int))) : (((0 : Int) ≤ x0) ∧ (x0 < ((5 : Int) + (Nat.cast x1 : Int)))) := by lia
theorem om351 {x0 : Int} (h0 : ((0 : Int) ≤ x0)) (h1 : (x0 < (3 : Int))) : (((1 : Int) + x0) = (Nat.cast (Int.toNat ((1 : Int) + x0)) : Int)) := by lia
theorem om352 {x0 : Nat} {x1 : Int} (h0 : ((0 : Int) ≤ x1)) (h1 : (x1 < (3 : Int))) (h2 : (((1 : Int) + x1) = (Nat.cast x0 : Int))) : (((1 : Nat) ≤ x0) ∧ (x0 ≤ (3 : Nat))) := by lia
theorem om353 {x0 : Nat} {x1 : Int} (h0 : ((0 : Int) ≤ x1)) (h1 : (x1 < (3 : Int))) (h2 : (((1 : Int) + x1) = (Nat.cast x0 : Int))) : (x0 ≤ (10 : Nat)) := by lia
theorem om354 {x0 : Nat} (h0 : (((1 : Nat) ≤ x0) ∧ (x0 ≤ (2 : Nat)))) : (x0 ≤ (10 : Nat)) := by lia
theorem om355 {x0 : Nat} {x1 : Nat} (h0 : (((1 : Nat) ≤ x1) ∧ (x1 ≤ (3 : Nat)))) (h1 : (x0 = x1)) : ((Nat.cast x0 : Int) < ((2 : Int) ^ (63 : Nat))) := by lia
theorem om356 {x0 : Nat} {x1 : Nat} (h0 : (((1 : Nat) ≤ x0) ∧ (x0 ≤ (3 : Nat)))) (h1 : (x1 = x0)) : (x0 ≤ (10 : Nat)) := by lia
theorem om357 {x0 : Nat} : (((0 : Int) ≤ (0 : Int)) ∧ ((0 : Int) < ((5 : Int) + (Nat.cast x0 : Int)))) := by lia
theorem om358 {x0 : Nat} : ((0 : Int) ≤ (((2 : Int) + (Nat.cast x0 : Int)) + (Nat.cast (2 : Nat) : Int))) := by lia
theorem om359 {x0 : Nat} : ((((2 : Int) + (Nat.cast x0 : Int)) + (Nat.cast (2 : Nat) : Int)) < ((5 : Int) + (Nat.cast x0 : Int))) := by lia
theorem om360 {x0 : Nat} {x1 : Int} (h0 : ((x0 = (1 : Nat)) ∨ (x0 = (2 : Nat)))) (h1 : ((x1 = (1 : Int)) ∨ (x1 = (-(1 : Int))))) : (((5 : Int) + (Nat.cast x0 : Int)) ≤ (400000 : Int)) := by lia
theorem om361 {x0 : Int} {x1 : Int} {x2 : Nat} (h0 : ((0 : Int) ≤ x1)) (h1 : (x1 < x0)) (h2 : (x0 ≤ (((5 : Int) + (Nat.cast x2 : Int)) + (1 : Int)))) (h3 : (((5 : Int) + (Nat.cast x2 : Int)) ≤ x0)) : (((0 : Int) ≤ (1 : Int)) ∧ ((1 : Int) < x0)) := by lia
theorem om362 {x0 : Nat} {x1 : Int} (h0 : (x1 ≤ (((5 : Int) + (Nat.cast x0 : Int)) + (1 : Int)))) (h1 : (((5 : Int) + (Nat.cast x0 : Int)) ≤ x1)) : (((0 : Int) ≤ (((2 : Int) + (Nat.cast x0 : Int)) + (Nat.cast (0 : Nat) : Int))) ∧ ((((2 : Int) + (Nat.cast x0 : Int)) + (Nat.cast (0 : Nat) : Int)) < x1)) := by lia
theorem om363 {x0 : Int} {x1 : Int} (h0 : ((0 : Int) ≤ x1)) (h1 : (x1 < x0)) : (((0 : Int) ≤ (0 : Int)) ∧ ((0 : Int) < x0)) := by lia
theorem om364 {x0 : Int} {x1 : Int} (h0 : ((0 : Int) ≤ x0)) (h1 : (x0 < x1)) : (((0 : Int) ≤ x0) ∧ (x0 < x1)) := by lia
theorem om365 {x0 : Int} {x1 : Nat} (h0 : (x1 = (4 : Nat))) (h1 : ((0 : Int) ≤ x0)) (h2 : (x0 < (4 : Int))) : ((Int.toNat x0) < x1) := by lia
theorem om366 {x0 : Int} (h0 : ((0 : Int) ≤ x0)) (h1 : (x0 < (4 : Int))) : ((Nat.cast (Int.toNat x0) : Int) = x0) := by lia
theorem om367 {x0 : Int} (h0 : ((0 : Int) ≤ x0)) (h1 : (x0 < (4 : Int))) : (x0 < ((2 : Int) ^ (63 : Nat))) := by lia
theorem om368 {x0 : Nat} {x1 : Nat} {x2 : Nat} (h0 : (((1 : Nat) ≤ x1) ∧ (x1 ≤ (3 : Nat)))) (h1 : (x0 = x1)) (h2 : (x2 = x1)) : (((1 : Nat) ≤ x0) ∧ (x0 ≤ (3 : Nat))) := by lia
theorem om369 {x0 : Nat} {x1 : Nat} {x2 : Nat} (h0 : (x1 = x2)) (h1 : (x0 = x2)) : (x0 = x1) := by lia
theorem om370 {x0 : Int} {x1 : Nat} {x2 : Int} (h0 : ((x1 = (1 : Nat)) ∨ (x1 = (2 : Nat)))) (h1 : ((x2 = (1 : Int)) ∨ (x2 = (-(1 : Int))))) (h2 : (x0 ≤ (((5 : Int) + (Nat.cast x1 : Int)) + (1 : Int)))) (h3 : (((5 : Int) + (Nat.cast x1 : Int)) ≤ x0)) : (x0 ≤ (20 : Int)) := by lia
theorem om371 {x0 : Int} (h0 : (x0 ≤ (20 : Int))) (h1 : ((2 : Int) ≤ x0)) : ((0 : Int) < x0) := by lia
theorem om372 {x0 : Nat} (h0 : (((1 : Nat) ≤ x0) ∧ (x0 ≤ (3 : Nat)))) : ((Nat.cast x0 : Int) < ((2 : Int) ^ (63 : Nat))) := by lia
theorem om373 {x0 : Int} (h0 : (x0 ≤ (20 : Int))) (h1 : ((0 : Int) < x0)) : (x0 ≤ (5000 : Int)) := by lia
theorem om374 {x0 : Nat} (h0 : (((1 : Nat) ≤ x0) ∧ (x0 ≤ (3 : Nat)))) : (x0 ≤ (10 : Nat)) := by lia
theorem om375 {x0 : Int} {x1 : Int} (h0 : (x1 ≤ (20 : Int))) (h1 : ((0 : Int) < x1)) (h2 : (x0 ≤ (x1 + (10 : Int)))) (h3 : (x1 ≤ x0)) : (x0 ≤ (10000 : Int)) := by lia
theorem om376 {x0 : Int} {x1 : Int} {x2 : Nat} {x3 : Int} {x4 : Nat} (h0 : (x1 ≤ (20 : Int))) (h1 : ((0 : Int) < x1)) (h2 : (((1 : Nat) ≤ x2) ∧ (x2 ≤ (2 : Nat)))) (h3 : (x3 ≤ (x1 + (10 : Int)))) (h4 : (x1 ≤ x3)) (h5 : (x4 = x2)) (h6 : (x0 ≤ (x3 + ((8 : Int) * (Nat.cast x2 : Int))))) (h7 : (x3 ≤ x0)) : ((0 : Int) < x0) := by lia
theorem om377 {x0 : Int} {x1 : Int} (h0 : (x1 ≤ (20 : Int))) (h1 : ((0 : Int) < x1)) (h2 : (x0 ≤ (x1 + (10 : Int)))) (h3 : (x1 ≤ x0)) : ((0 : Int) < x0) := by lia
theorem om378 {x0 : Int} {x1 : Int} {x2 : Nat} {x3 : Int} {x4 : Nat} (h0 : (x1 ≤ (20 : Int))) (h1 : ((0 : Int) < x1)) (h2 : (((1 : Nat) ≤ x2) ∧ (x2 ≤ (2 : Nat)))) (h3 : (x3 ≤ (x1 + (10 : Int)))) (h4 : (x1 ≤ x3)) (h5 : (x4 = x2)) (h6 : (x0 ≤ (x3 + ((8 : Int) * (Nat.cast x2 : Int))))) (h7 : (x3 ≤ x0)) : (x0 ≤ (10000 : Int)) := by lia
theorem om379 {x0 : Int} {x1 : Int} {x2 : Int} (h0 : (x1 ≤ (x2 + (20 : Int)))) (h1 : (x2 ≤ x1)) (h2 : (x0 < x2)) : (x0 < x1) := by lia
theorem om380 {x0 : Int} {x1 : Int} {x2 : Nat} {x3 : Int} {x4 : Nat} {x5 : Int} (h0 : (x1 ≤ (20 : Int))) (h1 : ((0 : Int) < x1)) (h2 : (((1 : Nat) ≤ x2) ∧ (x2 ≤ (2 : Nat)))) (h3 : (x3 ≤ (x1 + (10 : Int)))) (h4 : (x1 ≤ x3)) (h5 : (x4 = x2)) (h6 : (x5 ≤ (x3 + ((8 : Int) * (Nat.cast x2 : Int))))) (h7 : (x3 ≤ x5)) (h8 : (x0 ≤ (x5 + (20 : Int)))) (h9 : (x5 ≤ x0)) : ((0 : Int) < x0) := by lia
theorem om381 {x0 : Int} {x1 : Int} {x2 : Nat} {x3 : Int} {x4 : Nat} {x5 : Int} (h0 : (x1 ≤ (20 : Int))) (h1 : ((0 : Int) < x1)) (h2 : (((1 : Nat) ≤ x2) ∧ (x2 ≤ (2 : Nat)))) (h3 : (x3 ≤ (x1 + (10 : Int)))) (h4 : (x1 ≤ x3)) (h5 : (x4 = x2)) (h6 : (x5 ≤ (x3 + ((8 : Int) * (Nat.cast x2 : Int))))) (h7 : (x3 ≤ x5)) (h8 : (x0 ≤ (x5 + (20 : Int)))) (h9 : (x5 ≤ x0)) : (x0 ≤ (10000 : Int)) := by lia
theorem om382 {x0 : Int} {x1 : Int} {x2 : Nat} {x3 : Int} {x4 : Nat} {x5 : Int} {x6 : Int} (h0 : (x1 ≤ (20 : Int))) (h1 : ((0 : Int) < x1)) (h2 : (((1 : Nat) ≤ x2) ∧ (x2 ≤ (2 : Nat)))) (h3 : (x3 ≤ (x1 + (10 : Int)))) (h4 : (x1 ≤ x3)) (h5 : (x4 = x2)) (h6 : (x5 ≤ (x3 + ((8 : Int) * (Nat.cast x2 : Int))))) (h7 : (x3 ≤ x5)) (h8 : (x6 ≤ (x5 + (20 : Int)))) (h9 : (x5 ≤ x6)) (h10 : (x0 ≤ (x6 + (20 : Int)))) (h11 : (x6 ≤ x0)) : ((0 : Int) < x0) := by lia
theorem om383 {x0 : Int} {x1 : Int} {x2 : Nat} {x3 : Int} {x4 : Nat} {x5 : Int} {x6 : Int} (h0 : (x1 ≤ (20 : Int))) (h1 : ((0 : Int) < x1)) (h2 : (((1 : Nat) ≤ x2) ∧ (x2 ≤ (2 : Nat)))) (h3 : (x3 ≤ (x1 + (10 : Int)))) (h4 : (x1 ≤ x3)) (h5 : (x4 = x2)) (h6 : (x5 ≤ (x3 + ((8 : Int) * (Nat.cast x2 : Int))))) (h7 : (x3 ≤ x5)) (h8 : (x6 ≤ (x5 + (20 : Int)))) (h9 : (x5 ≤ x6)) (h10 : (x0 ≤ (x6 + (20 : Int)))) (h11 : (x6 ≤ x0)) : (x0 ≤ (100 : Int)) := by lia
theorem om384 {x0 : Nat} {x1 : Int} (h0 : ((0 : Int) ≤ x1)) (h1 : (x1 < (3 : Int))) (h2 : (((1 : Int) + x1) = (Nat.cast x0 : Int))) : (x0 ≤ (1000000 : Nat)) := by lia
theorem om385 {x0 : Nat} {x1 : Int} {x2 : Nat} (h0 : ((0 : Int) ≤ x1)) (h1 : (x1 < (3 : Int))) (h2 : (((1 : Int) + x1) = (Nat.cast x0 : Int))) (h3 : (x2 = x0)) : (((1 : Nat) ≤ x0) ∧ (x0 ≤ (3 : Nat))) := by lia
theorem om386 {x0 : Int} {x1 : Int} {x2 : Int} {x3 : Nat} {x4 : Nat} (h0 : (((-(2 : Int)) ≤ x1) ∧ (x1 ≤ (2 : Int)))) (h1 : ((0 : Int) ≤ x2)) (h2 : (x2 < (3 : Int))) (h3 : (((1 : Int) + x2) = (Nat.cast x3 : Int))) (h4 : (x4 = x3)) (h5 : ((x1 ≤ x0) ∧ (x0 < (x1 + (Nat.cast x3 : Int))))) : (((-(20 : Int)) ≤ x0) ∧ (x0 ≤ (20 : Int))) := by lia
theorem om387 {x0 : Nat} {x1 : Nat} (h0 : (((1 : Nat) ≤ x1) ∧ (x1 ≤ (3 : Nat)))) (h1 : (x0 = x1)) : (x0 ≤ (1000000 : Nat)) := by lia
theorem om388 {x0 : Nat} {x1 : Nat} {x2 : Nat} (h0 : (((1 : Nat) ≤ x1) ∧ (x1 ≤ (3 : Nat)))) (h1 : (x2 = x1)) (h2 : (x0 = x1)) : (x0 ≤ (10 : Nat)) := by lia
theorem om389 {x0 : Int} (h0 : (x0 ≤ (100 : Int))) (h1 : ((2 : Int) ≤ x0)) : (x0 ≤ (10000 : Int)) := by lia
theorem om390 {x0 : Nat} {x1 : Nat} {x2 : Nat} {x3 : Nat} (h0 : (((1 : Nat) ≤ x1) ∧ (x1 ≤ (3 : Nat)))) (h1 : (x2 = x1)) (h2 : (x0 = x1)) (h3 : (x3 = x0)) : (x0 ≤ (1000000 : Nat)) := by lia
theorem om391 {x0 : Int} {x1 : Int} {x2 : Int} {x3 : Nat} {x4 : Nat} {x5 : Nat} {x6 : Nat} {x7 : Nat} (h0 : (x2 ≤ (100 : Int))) (h1 : ((2 : Int) ≤ x2)) (h2 : (((1 : Nat) ≤ x3) ∧ (x3 ≤ (3 : Nat)))) (h3 : (x4 = x3)) (h4 : (x5 = x3)) (h5 : (x6 = x5)) (h6 : (x1 ≤ (x2 + ((2 : Int) + ((2 : Int) * (Nat.cast x5 : Int)))))) (h7 : (x2 ≤ x1)) (h8 : (((5 : Int) + (Nat.cast x7 : Int)) ≤ x1)) (h9 : ((((2 : Int) + (Nat.cast x7 : Int)) ≤ x0) ∧ (x0 < (((2 : Int) + (Nat.cast x7 : Int)) + (Nat.cast (3 : Nat) : Int))))) : (((0 : Int) ≤ x0) ∧ (x0 < x1)) := by lia
theorem om392 {x0 : Int} {x1 : Int} {x2 : Int} {x3 : Nat} {x4 : Nat} {x5 : Nat} {x6 : Nat} (h0 : (x2 ≤ (100 : Int))) (h1 : ((2 : Int) ≤ x2)) (h2 : (((1 : Nat) ≤ x3) ∧ (x3 ≤ (3 : Nat)))) (h3 : (x4 = x3)) (h4 : (x5 = x3)) (h5 : (x6 = x5)) (h6 : (x1 ≤ (x2 + ((2 : Int) + ((2 : Int) * (Nat.cast x5 : Int)))))) (h7 : (x2 ≤ x1)) (h8 : (x0 = (0 : Int))) : (((0 : Int) ≤ x0) ∧ (x0 < x1)) := by lia
theorem om393 {x0 : Int} {x1 : Int} {x2 : Int} {x3 : Nat} {x4 : Nat} {x5 : Nat} {x6 : Nat} (h0 : (x2 ≤ (100 : Int))) (h1 : ((2 : Int) ≤ x2)) (h2 : (((1 : Nat) ≤ x3) ∧ (x3 ≤ (3 : Nat)))) (h3 : (x4 = x3)) (h4 : (x5 = x3)) (h5 : (x6 = x5)) (h6 : (x1 ≤ (x2 + ((2 : Int) + ((2 : Int) * (Nat.cast x5 : Int)))))) (h7 : (x2 ≤ x1)) (h8 : (x0 = (1 : Int))) : (((0 : Int) ≤ x0) ∧ (x0 < x1)) := by lia
theorem om394 {x0 : Nat} {x1 : Nat} {x2 : Nat} (h0 : (x0 = x2)) (h1 : (x1 = x2)) : (x0 = x1) := by lia
theorem om395 {x0 : Nat} {x1 : Nat} {x2 : Nat} {x3 : Nat} {x4 : Nat} (h0 : (((1 : Nat) ≤ x1) ∧ (x1 ≤ (3 : Nat)))) (h1 : (x2 = x1)) (h2 : (x3 = x1)) (h3 : (x4 = x3)) (h4 : (x0 = x3)) : (x0 ≤ (4 : Nat)) := by lia
theorem om396 {x0 : Int} {x1 : Int} {x2 : Nat} {x3 : Nat} {x4 : Nat} {x5 : Nat} {x6 : Nat} (h0 : (x1 ≤ (100 : Int))) (h1 : ((2 : Int) ≤ x1)) (h2 : (((1 : Nat) ≤ x2) ∧ (x2 ≤ (3 : Nat)))) (h3 : (x3 = x2)) (h4 : (x4 = x2)) (h5 : (x5 = x4)) (h6 : (x0 ≤ (x1 + ((2 : Int) + ((2 : Int) * (Nat.cast x4 : Int)))))) (h7 : (x6 = x4)) : (x0 ≤ (10000 : Int)) := by lia
theorem om397 {x0 : Int} {x1 : Int} {x2 : Nat} {x3 : Int} {x4 : Nat} (h0 : (x1 ≤ (100 : Int))) (h1 : ((2 : Int) ≤ x1)) (h2 : (((1 : Nat) ≤ x2) ∧ (x2 ≤ (2 : Nat)))) (h3 : (x1 ≤ x3)) (h4 : (x4 = x2)) (h5 : (x0 ≤ (x3 + ((8 : Int) * (Nat.cast x2 : Int))))) (h6 : (x3 ≤ x0)) : ((0 : Int) < x0) := by lia
theorem om398 {x0 : Int} {x1 : Int} (h0 : (x1 ≤ (100 : Int))) (h1 : ((2 : Int) ≤ x1)) (h2 : (x1 ≤ x0)) : ((0 : Int) < x0) := by lia
theorem om399 {x0 : Int} {x1 : Int} {x2 : Nat} {x3 : Nat} {x4 : Nat} {x5 : Nat} {x6 : Nat} {x7 : Int} {x8 : Nat} {x9 : Nat} (h0 : (x1 ≤ (100 : Int))) (h1 : ((2 : Int) ≤ x1)) (h2 : (((1 : Nat) ≤ x2) ∧ (x2 ≤ (2 : Nat)))) (h3 : (((1 : Nat) ≤ x3) ∧ (x3 ≤ (3 : Nat)))) (h4 : (x4 = x3)) (h5 : (x5 = x3)) (h6 : (x6 = x5)) (h7 : (x7 ≤ (x1 + ((2 : Int) + ((2 : Int) * (Nat.cast x5 : Int)))))) (h8 : (x8 = x5)) (h9 : (x9 = x2)) (h10 : (x0 ≤ (x7 + ((8 : Int) * (Nat.cast x2 : Int))))) (h11 : (x7 ≤ x0)) : (x0 ≤ (10000 : Int)) := by lia
theorem om400 {x0 : Int} {x1 : Int} {x2 : Nat} {x3 : Int} {x4 : Nat} {x5 : Int} (h0 : (x1 ≤ (100 : Int))) (h1 : ((2 : Int) ≤ x1)) (h2 : (((1 : Nat) ≤ x2) ∧ (x2 ≤ (2 : Nat)))) (h3 : (x1 ≤ x3)) (h4 : (x4 = x2)) (h5 : (x5 ≤ (x3 + ((8 : Int) * (Nat.cast x2 : Int))))) (h6 : (x3 ≤ x5)) (h7 : (x0 ≤ (x5 + (20 : Int)))) (h8 : (x5 ≤ x0)) : ((0 : Int) < x0) := by lia
theorem om401 {x0 : Int} {x1 : Int} {x2 : Int} (h0 : (x1 ≤ (100 : Int))) (h1 : ((2 : Int) ≤ x1)) (h2 : (x1 ≤ x2)) (h3 : (x2 ≤ x0)) : ((0 : Int) < x0) := by lia
theorem om402 {x0 : Int} {x1 : Int} {x2 : Nat} {x3 : Nat} {x4 : Nat} {x5 : Nat} {x6 : Nat} {x7 : Int} {x8 : Nat} {x9 : Nat} {x10 : Int} {x11 : Nat} (h0 : (x1 ≤ (100 : Int))) (h1 : ((2 : Int) ≤ x1)) (h2 : (((1 : Nat) ≤ x2) ∧ (x2 ≤ (2 : Nat)))) (h3 : (((1 : Nat) ≤ x3) ∧ (x3 ≤ (3 : Nat)))) (h4 : (x4 = x3)) (h5 : (x5 = x3)) (h6 : (x6 = x5)) (h7 : (x7 ≤ (x1 + ((2 : Int) + ((2 : Int) * (Nat.cast x5 : Int)))))) (h8 : (x8 = x5)) (h9 : (x9 = x2)) (h10 : (x10 ≤ (x7 + ((8 : Int) * (Nat.cast x2 : Int))))) (h11 : (x7 ≤ x10)) (h12 : (x11 = x8)) (h13 : (x0 ≤ (x10 + (20 : Int)))) (h14 : (x10 ≤ x0)) : (x0 ≤ (1000 : Int)) := by lia
theorem om403 {x0 : Nat} {x1 : Nat} {x2 : Nat} {x3 : Nat} {x4 : Nat} {x5 : Nat} (h0 : (((1 : Nat) ≤ x1) ∧ (x1 ≤ (3 : Nat)))) (h1 : (x2 = x1)) (h2 : (x0 = x1)) (h3 : (x3 = x0)) (h4 : (x4 = x0)) (h5 : (x5 = x4)) : (((1 : Nat) ≤ x0) ∧ (x0 ≤ (3 : Nat))) := by lia
theorem om404 {x0 : Nat} {x1 : Nat} {x2 : Nat} {x3 : Nat} (h0 : (x2 = x1)) (h1 : (x3 = x1)) (h2 : (x0 = x3)) : (x0 = x1) := by lia
theorem om405 {x0 : Int} (h0 : (x0 ≤ (1000 : Int))) : (x0 ≤ (10000 : Int)) := by lia
theorem om406 {x0 : Nat} (h0 : ((x0 = (1 : Nat)) ∨ (x0 = (2 : Nat)))) : (((1 : Nat) ≤ (x0 + (3 : Nat))) ∧ ((x0 + (3 : Nat)) ≤ (5 : Nat))) := by lia
theorem om407 {x0 : Nat} : (((5 : Int) + (Nat.cast x0 : Int)) = ((2 : Int) + ((((Nat.cast x0 : Int) + (1 : Int)) + (1 : Int)) + (1 : Int)))) := by lia
theorem om408 {x0 : Nat} (h0 : (x0 ≤ (60 : Nat))) : (x0 < ((2 : Nat) ^ (59 : Nat))) := by lia
theorem om409 {x0 : Nat} {x1 : Nat} (h0 : ((x0 + ((30 : Nat) * (11 : Nat))) ≤ (9000 : Nat))) (h1 : (x1 = (9900 : Nat))) : ((x0 + (64 : Nat)) < x1) := by lia
theorem om410 {x0 : Nat} {x1 : Nat} (h0 : ((x1 = (1 : Nat)) ∨ (x1 = (2 : Nat)))) (h1 : (x0 = x1)) : (x0 ≤ (5 : Nat)) := by lia
theorem om411 {x0 : Nat} {x1 : Nat} {x2 : Nat} (h0 : (x1 = x0)) (h1 : (x2 = x0)) : ((Int.toNat ((Nat.cast x0 : Int) - (1 : Int))) = (x0 - (1 : Nat))) := by lia
theorem om412 {x0 : Nat} {x1 : Nat} {x2 : Nat} (h0 : ((x1 = (1 : Nat)) ∨ (x1 = (2 : Nat)))) (h1 : (x0 = x1)) (h2 : (x2 = x1)) : ((Nat.cast x0 : Int) < ((2 : Int) ^ (63 : Nat))) := by lia
theorem om413 {x0 : Nat} {x1 : Nat} {x2 : Nat} (h0 : ((x1 = (1 : Nat)) ∨ (x1 = (2 : Nat)))) (h1 : (x0 = x1)) (h2 : (x2 = x1)) : ((0 : Int) ≤ ((Nat.cast x0 : Int) - (1 : Int))) := by lia
theorem om414 {x0 : Nat} {x1 : Nat} {x2 : Nat} (h0 : ((x1 = (1 : Nat)) ∨ (x1 = (2 : Nat)))) (h1 : (x0 = x1)) (h2 : (x2 = x1)) : (((Nat.cast x0 : Int) - (1 : Int)) ≤ (1000000 : Int)) := by lia
theorem om415 {x0 : Nat} {x1 : Nat} {x2 : Nat} (h0 : (x0 = x1)) (h1 : (x2 = x1)) : ((0 : Int) ≤ (Nat.cast x0 : Int)) := by lia
theorem om416 {x0 : Nat} {x1 : Nat} {x2 : Nat} (h0 : ((x1 = (1 : Nat)) ∨ (x1 = (2 : Nat)))) (h1 : (x0 = x1)) (h2 : (x2 = x1)) : ((Nat.cast x0 : Int) ≤ (1000000 : Int)) := by lia
theorem om417 {x0 : Nat} {x1 : Nat} (h0 : (x1 ≤ (60 : Nat))) (h1 : (x0 < x1)) : ((Nat.cast x0 : Int) ≤ (1000000 : Int)) := by lia
theorem om418 {x0 : Nat} {x1 : Nat} (h0 : (x1 ≤ (60 : Nat))) (h1 : (x0 < x1)) : (x0 < (64 : Nat)) := by lia
theorem om419 {x0 : Nat} (h0 : (((1 : Nat) ≤ x0) ∧ (x0 ≤ (3 : Nat)))) : (x0 ≤ (100 : Nat)) := by lia
theorem om420 {x0 : Nat} {x1 : Nat} (h0 : (x0 = x1)) (h1 : (((1 : Nat) ≤ x1) ∧ (x1 ≤ (2 : Nat)))) : (x0 ≤ (100 : Nat)) := by lia
theorem om421 {x0 : Nat} {x1 : Nat} (h0 : (((1 : Nat) ≤ x1) ∧ (x1 ≤ (2 : Nat)))) (h1 : (x0 = x1)) : (x0 ≤ (100 : Nat)) := by lia
theorem om422 {x0 : Nat} (h0 : (((1 : Nat) ≤ x0) ∧ (x0 ≤ (2 : Nat)))) : (x0 ≤ (1000000 : Nat)) := by lia
theorem om423 {x0 : Nat} {x1 : Nat} (h0 : (x0 = x1)) (h1 : (((1 : Nat) ≤ x1) ∧ (x1 ≤ (3 : Nat)))) : ((Nat.cast x0 : Int) < ((2 : Int) ^ (63 : Nat))) := by lia
theorem om424 {x0 : Int} {x1 : Nat} {x2 : Nat} {x3 : Nat} (h0 : (x2 = x3)) (h1 : ((0 : Int) ≤ (x0 + (Nat.cast x1 : Int)))) (h2 : ((x0 + (Nat.cast x1 : Int)) < (Nat.cast x3 : Int))) : ((Int.toNat (x0 + (Nat.cast x1 : Int))) < x2) := by lia
theorem om425 {x0 : Int} {x1 : Nat} {x2 : Nat} (h0 : (((1 : Nat) ≤ x2) ∧ (x2 ≤ (3 : Nat)))) (h1 : ((x0 + (Nat.cast x1 : Int)) < (Nat.cast x2 : Int))) : ((x0 + (Nat.cast x1 : Int)) < ((2 : Int) ^ (63 : Nat))) := by lia
theorem om426 {x0 : Nat} {x1 : Nat} (h0 : (x0 = x1)) (h1 : (((1 : Nat) ≤ x1) ∧ (x1 ≤ (3 : Nat)))) : (x0 ≤ (1000000 : Nat)) := by lia
theorem om427 {x0 : Nat} {x1 : Nat} (h0 : (((1 : Nat) ≤ x1) ∧ (x1 ≤ (3 : Nat)))) (h1 : (x0 = x1)) : (x0 ≤ (100 : Nat)) := by lia
theorem om428 {x0 : Nat} {x1 : Nat} {x2 : Nat} (h0 : (x0 < x2)) (h1 : (x1 = x2)) : (x0 < x1) := by lia
theorem om429 {x0 : Nat} {x1 : Nat} {x2 : Nat} (h0 : (((1 : Nat) ≤ x1) ∧ (x1 ≤ (2 : Nat)))) (h1 : (x0 < x1)) (h2 : (x2 = x1)) : ((Nat.cast x0 : Int) < ((2 : Int) ^ (63 : Nat))) := by lia
theorem om430 {x0 : Int} {x1 : Nat} {x2 : Nat} {x3 : Nat} (h0 : (((1 : Nat) ≤ x2) ∧ (x2 ≤ (2 : Nat)))) (h1 : (x1 < x2)) (h2 : ((0 : Int) ≤ (x0 + (Nat.cast x1 : Int)))) (h3 : (x3 = x2)) : ((Int.toNat ((Nat.cast (Int.toNat (x0 + (Nat.cast x1 : Int))) : Int) - x0)) = x1) := by lia
theorem om431 {x0 : Nat} {x1 : Nat} (h0 : (x0 = x1)) (h1 : (((1 : Nat) ≤ x1) ∧ (x1 ≤ (3 : Nat)))) : (x0 ≤ (100 : Nat)) := by lia
theorem om432 {x0 : Nat} (h0 : (((1 : Nat) ≤ x0) ∧ (x0 ≤ (3 : Nat)))) : (x0 ≤ (1000000 : Nat)) := by lia
theorem om433 {x0 : Nat} {x1 : Nat} {x2 : Nat} {x3 : Nat} {x4 : Prop} {x5 : Prop} (h0 : (x1 = x2)) (h1 : (x2 = x3)) (h2 : (x4 ∧ (x5 ∧ (x0 ≤ x2)))) : ((min x0 x1) = x0) := by lia
theorem om434 {x0 : Nat} {x1 : Nat} {x2 : Prop} (h0 : (((1 : Nat) ≤ x1) ∧ (x1 ≤ (2 : Nat)))) (h1 : ((x0 = x1) ∧ x2)) : (x0 ≤ (100 : Nat)) := by lia
theorem om435 {x0 : Nat} {x1 : Nat} (h0 : (((1 : Nat) ≤ x1) ∧ (x1 ≤ (3 : Nat)))) (h1 : (x0 < x1)) : ((Nat.cast x0 : Int) < ((2 : Int) ^ (63 : Nat))) := by lia
theorem om436 {x0 : Nat} (h0 : (((1 : Nat) ≤ x0) ∧ (x0 ≤ (2 : Nat)))) : ((0 : Int) ≤ (Nat.cast x0 : Int)) := by lia
theorem om437 {x0 : Nat} (h0 : (((1 : Nat) ≤ x0) ∧ (x0 ≤ (2 : Nat)))) : ((Nat.cast x0 : Int) ≤ (1000 : Int)) := by lia
theorem om438 {x0 : Nat} {x1 : Nat} {x2 : Nat} {x3 : Nat} (h0 : (x1 = x2)) (h1 : (x2 = x3)) (h2 : (x0 < x3)) : ((Nat.cast x0 : Int) < (Nat.cast x1 : Int)) := by lia
theorem om439 {x0 : Nat} {x1 : Nat} {x2 : Nat} (h0 : (x0 = x1)) (h1 : (((1 : Nat) ≤ x2) ∧ (x2 ≤ (3 : Nat)))) (h2 : (x1 = x2)) : ((1 : Nat) ≤ x0) := by lia
end Mine

namespace Mine
open PySem PySem.W PySem.Calls PyProof.Rows

/-! the ways in which a rule's small sides are shown, each written once -/
@[reducible] def tacSeq (xs : Array Lean.Syntax) : Lean.Syntax := .node .none `Lean.Parser.Tactic.tacticSeq #[.node .none `Lean.Parser.Tactic.tacticSeq1Indented #[.node .none `null xs]]
@[reducible] def tacRfl : Lean.Syntax := .node .none `Lean.Parser.Tactic.tacticRfl #[.atom .none "rfl"]
@[reducible] def tacHole : Lean.Syntax := .node .none `Lean.Parser.Term.hole #[.atom .none "_"]
@[reducible] def tacIntro (xs : Array Lean.Syntax) : Lean.Syntax := .node .none `Lean.Parser.Tactic.intro #[.atom .none "intro", .node .none `null xs]
@[reducible] def autoRfl : Lean.Syntax := tacSeq #[tacRfl]
@[reducible] def autoDec : Lean.Syntax := tacSeq #[.node .none `Lean.Parser.Tactic.decide #[.atom .none "decide", .node .none `Lean.Parser.Tactic.optConfig #[.node .none `null #[]]]]
@[reducible] def autoRfl1 : Lean.Syntax := tacSeq #[tacIntro #[tacHole], .atom .none ";", tacRfl]
@[reducible] def autoRfl2 : Lean.Syntax := tacSeq #[tacIntro #[tacHole, tacHole], .atom .none ";", tacRfl]

/-- a value without its token -/
noncomputable def er : Value → Value
  | .int i _ => .int i 0
  | .str s _ => .str s 0
  | .float b _ => .float b 0
  | .bytes b _ => .bytes b 0
  | v => v
theorem er_int {u : Value} {i : Int} (h : er u = .int i 0) : ∃ t, u = .int i t := by
  cases u <;> simp [er] at h; exact ⟨_, by rw [h]⟩
theorem er_str {u : Value} {x : Str} (h : er u = .str x 0) : ∃ t, u = .str x t := by
  cases u <;> simp [er] at h; exact ⟨_, by rw [h]⟩
theorem er_ref {u : Value} {a : Addr} (h : er u = .ref a) : u = .ref a := by
  cases u <;> simp [er] at h; rw [h]
theorem er_bool {u : Value} {b : Bool} (h : er u = .bool b) : u = .bool b := by
  cases u <;> simp [er] at h; rw [h]
theorem er_none {u : Value} (h : er u = .none) : u = .none := by
  cases u <;> simp [er] at h; rfl
theorem er_er (u : Value) : er (er u) = er u := by cases u <;> rfl

/-- a part of a tuple that is a dict's key -/
inductive TK where
  | i (n : Int)
  | s (x : Str)
  deriving DecidableEq

/-- what stays fixed: the program, the world, the heap at the call, the world's outside -/
structure Cx where
  prog : Program
  w : World
  T : Heap
  os : OsState
  big : ∃ b o, 100 ≤ b ∧ T.get? b = some o

noncomputable def TK.is : TK → Value → Bool
  | .i n, .int m _ => n == m
  | .s x, .str y _ => x == y
  | _, _ => false
theorem TK.is_i {n : Int} {v : Value} (h : TK.is (.i n) v = true) : ∃ t, v = .int n t := by
  cases v <;> simp [TK.is] at h; exact ⟨_, by rw [h]⟩
theorem TK.is_s {x : Str} {v : Value} (h : TK.is (.s x) v = true) : ∃ t, v = .str x t := by
  cases v <;> simp [TK.is] at h; exact ⟨_, by rw [h]⟩
noncomputable def TK.val : TK → Value
  | .i n => .int n 0
  | .s x => .str x 0
theorem TK.is_of_er {k : TK} {v : Value} (h : er v = k.val) : TK.is k v = true := by
  cases k with
  | i n => obtain ⟨t, rfl⟩ := er_int h; simp [TK.is]
  | s x => obtain ⟨t, rfl⟩ := er_str h; simp [TK.is]
theorem wpAny_eqBool_int_str {M : Model} {A : Around} {E : Value → Shared → Prop} {s : Shared} {i : Int} {x : Str} {t t' : Tok} {Q : Bool → Shared → Prop}
    (h : wpAny M A (richCompare .Eq (.int i t) (.str x t')) (fun r s' => r = .bool false ∧ Q false s') E s) : wpAny M A (eqBool (.int i t) (.str x t')) Q E s := by
  unfold eqBool
  rw [if_neg (by rw [show (Value.int i t == Value.str x t') = false from rfl]; exact Bool.false_ne_true)]
  exact wpAny_bind (wpAny_mono h (fun r s' ⟨e, q⟩ => by rw [e]; exact wpAny_truthy_bool q) fun _ _ e => e)
theorem wpAny_eqBool_str_int {M : Model} {A : Around} {E : Value → Shared → Prop} {s : Shared} {i : Int} {x : Str} {t t' : Tok} {Q : Bool → Shared → Prop}
    (h : wpAny M A (richCompare .Eq (.str x t) (.int i t')) (fun r s' => r = .bool false ∧ Q false s') E s) : wpAny M A (eqBool (.str x t) (.int i t')) Q E s := by
  unfold eqBool
  rw [if_neg (by rw [show (Value.str x t == Value.int i t') = false from rfl]; exact Bool.false_ne_true)]
  exact wpAny_bind (wpAny_mono h (fun r s' ⟨e, q⟩ => by rw [e]; exact wpAny_truthy_bool q) fun _ _ e => e)

noncomputable def tkKind (prog : Program) (w : World) : KeyKind prog w TK where
  is := TK.is
  hash := fun k => match k with | .i n => hashInt n | .s x => hashStr w x
  inj := fun v a b ha hb => by
    cases a with
    | i n => obtain ⟨t, rfl⟩ := TK.is_i ha; cases b <;> simp [TK.is] at hb; rw [hb]
    | s x => obtain ⟨t, rfl⟩ := TK.is_s ha; cases b <;> simp [TK.is] at hb; rw [hb]
  byValue := fun k v h => by
    cases k with
    | i n => obtain ⟨t, rfl⟩ := TK.is_i h; rfl
    | s x => obtain ⟨t, rfl⟩ := TK.is_s h; rfl
  pyHash := fun {A E s k v Q} hv h => by
    cases k with
    | i n => obtain ⟨t, rfl⟩ := TK.is_i hv; exact wpAny_pyHash_int h
    | s x => obtain ⟨t, rfl⟩ := TK.is_s hv; exact wpAny_pyHash_str h
  eqBool := fun {A E s a b u v Q} hu hv h => by
    cases a with
    | i n =>
      obtain ⟨t, rfl⟩ := TK.is_i hu
      cases b with
      | i m =>
        obtain ⟨t', rfl⟩ := TK.is_i hv
        refine wpAny_eqBool_int ?_
        by_cases q : n = m
        · subst q; simpa using h
        · have q' : ¬ TK.i n = TK.i m := fun z => q (by injection z)
          rw [decide_eq_false q'] at h; rw [show (n == m) = false from beq_eq_false_iff_ne.mpr q]; exact h
      | s y =>
        obtain ⟨t', rfl⟩ := TK.is_s hv
        rw [decide_eq_false (by intro z; cases z)] at h
        exact wpAny_eqBool_int_str (EqMixed.eq_int_str ⟨rfl, h⟩)
    | s x =>
      obtain ⟨t, rfl⟩ := TK.is_s hu
      cases b with
      | i m =>
        obtain ⟨t', rfl⟩ := TK.is_i hv
        rw [decide_eq_false (by intro z; cases z)] at h
        exact wpAny_eqBool_str_int (EqMixed.eq_str_int ⟨rfl, h⟩)
      | s y =>
        obtain ⟨t', rfl⟩ := TK.is_s hv
        refine wpAny_eqBool_str ?_
        by_cases q : x = y
        · subst q; simpa using h
        · have q' : ¬ TK.s x = TK.s y := fun z => q (by injection z)
          rw [decide_eq_false q'] at h
          first | (rw [decide_eq_false q]; exact h) | (rw [show (x == y) = false from beq_eq_false_iff_ne.mpr q]; exact h)
  «strs» := fun k x t v h => by
    cases k with
    | i n => simp [TK.is] at h
    | s y =>
      simp [TK.is] at h
      subst h
      cases v <;> simp [TK.is, Value.isStr, Bool.beq_comm]

inductive AObj where
  | list (xs : List Value)
  | tup (xs : List Value)
  /-- an attribute dict -/
  | ns (fs : List (Str × Value))
  /-- a dict by ints -/
  | idict (kvs : List (Int × Value))
  /-- a dict by tuples: the key's parts, the key's address, the value -/
  | tdict (xs : List (List TK × Addr × Value))
  | inst (C d : Addr)
  | sdict (kvs : List (Str × Value))

noncomputable def keyS : Value → Str
  | .str x _ => x
  | _ => Str.empty
noncomputable def Mt (c : Cx) : Obj → AObj → Prop
  | o, .list xs => ∃ (vs : Array Value) (n : Nat), o = { cls := .type "list", data := .seq vs n } ∧ vs.toList.map er = xs
  | o, .tup xs => o.cls = .type "tuple" ∧ ∃ vs n, o.data = .seq vs n ∧ vs.toList.map er = xs
  | o, .ns fs => ∃ (rs : List DictEntry) (n : Nat), o = dictOf rs n ∧ (∀ e ∈ rs, ∃ x t, e.key = .str x t) ∧ rs.map (fun e => (keyS e.key, er e.val)) = fs
  | o, .idict kvs => ∃ kvs', o.IsDictOf (intKind c.prog c.w) kvs' ∧ kvs'.map (fun p => (p.1, er p.2)) = kvs
  | o, .tdict xs => ∃ (xs' : List (List TK × Addr × Value)) (es : Array DictEntry) (ep : Nat), o.ExactDict ∧ o.data = .dict es ep ∧ es.toList = xs'.map (entryOfKey (tupleKind (tkKind c.prog c.w))) ∧ (xs'.map (·.1)).Nodup ∧ xs'.map (fun p => (p.1, p.2.1, er p.2.2)) = xs
  | o, .inst C d => ∃ sl, o = ⟨.ref C, some d, .plain, sl⟩
  | o, .sdict kvs => ∃ kvs', o.IsDictOf (strKind c.prog c.w) kvs' ∧ kvs'.map (fun p => (p.1, er p.2)) = kvs

theorem Mt.alive {c : Cx} {ro : Obj} {o : AObj} (h : Mt c ro o) : ro.isFreed = false := by
  cases o with
  | list xs => obtain ⟨vs, n, rfl, _⟩ := h; rfl
  | tup xs => obtain ⟨_, vs, n, e, _⟩ := h; unfold Obj.isFreed; split <;> first | rfl | (rename_i q; cases q; cases e) | (rename_i q; simp_all)
  | ns fs => obtain ⟨rs, n, rfl, _⟩ := h; rfl
  | idict kvs => obtain ⟨_, ⟨es, ep, _, e, _⟩, _⟩ := h; exact Obj.isFreed_of_dict e
  | tdict xs => obtain ⟨_, es, ep, _, e, _⟩ := h; exact Obj.isFreed_of_dict e
  | inst C d => obtain ⟨sl, rfl⟩ := h; rfl
  | sdict kvs => obtain ⟨_, ⟨es, ep, _, e, _⟩, _⟩ := h; exact Obj.isFreed_of_dict e

noncomputable abbrev PH := Addr → Option Obj
noncomputable abbrev AH := Addr → Option AObj
noncomputable abbrev Ms := Str → Option Value

noncomputable def upd (H : AH) (a : Addr) (o : AObj) : AH := fun b => if b = a then some o else H b
theorem upd_self (H : AH) (a : Addr) (o : AObj) : upd H a o a = some o := if_pos rfl
theorem upd_ne (H : AH) {a b : Addr} (o : AObj) (h : b ≠ a) : upd H a o b = H b := if_neg h
noncomputable def mset (m : Ms) (x : Str) (v : Value) : Ms := fun y => if y = x then some v else m y
theorem mset_self (m : Ms) (x : Str) (v : Value) : mset m x v x = some v := if_pos rfl
theorem mset_ne (m : Ms) {x y : Str} (v : Value) (h : y ≠ x) : mset m x v y = m y := if_neg h

structure RH (c : Cx) (P : PH) (H : AH) (s : Shared) : Prop where
  top : ∀ b o, c.T.get? b = some o → P b = some o
  keep : ∀ b o, P b = some o → s.heap.get? b = some o
  obj : ∀ a o, H a = some o → P a = none ∧ 100 ≤ a ∧ ∃ ro, s.heap.get? a = some ro ∧ Mt c ro o
  gens : s.gens = #[]
  os : s.os = c.os

noncomputable def Bd (env : Env) (h : Heap) (nm : Str → Option Value) (x : Str) (v : Value) : Prop :=
  (env.kindOf x = some .local ∧ ∃ u, nm x = some u ∧ er u = v) ∨
  (env.kindOf x = some .cell ∧ ∃ k u, env.cells.lookup x = some k ∧ h.IsCell k (some u) ∧ er u = v)

structure RF (c : Cx) (P : PH) (H : AH) (env : Env) (m : Ms) (s : Shared) : Prop extends RH c P H s where
  locP : P env.locals = none
  locH : H env.locals = none
  loc : ∃ nm, s.heap.Ns env.locals nm ∧ ∀ x v, m x = some v → Bd env s.heap nm x v
  cel : ∀ x k, env.cells.lookup x = some k → H k = none ∧ k ≠ env.locals ∧ ∃ v, s.heap.IsCell k v
  apart : ∀ x y k, env.cells.lookup x = some k → env.cells.lookup y = some k → x = y
  own : env.func.isSome = true → ∀ x k, env.cells.lookup x = some k → P k = none

noncomputable abbrev Mo (c : Cx) : Model := model c.prog c.w

noncomputable def EV (c : Cx) (A : Around) (env : Env) (t : Sem Value) (H : AH) (m : Ms) (Q : Value → AH → Prop) : Prop :=
  ∀ P s E, RF c P H env m s → wpAny (Mo c) A t (fun u s' => ∃ H', RF c P H' env m s' ∧ Q (er u) H') E s

noncomputable def erF : Flow → Flow
  | .ret v => .ret (er v)
  | f => f
noncomputable def EX (c : Cx) (A : Around) (env : Env) (t : Sem Flow) (H : AH) (m : Ms) (Q : Flow → AH → Ms → Prop) : Prop :=
  ∀ P s E, RF c P H env m s → wpAny (Mo c) A t (fun f s' => ∃ H' m', RF c P H' env m' s' ∧ Q (erF f) H' m') E s

/-- room for n nested calls -/
noncomputable def Rm (n : Nat) (A : Around) : Prop := A.handled = none ∧ A.depth + 3 * n ≤ 900 ∧ A.units + 30 * n ≤ 9000

noncomputable def FN (c : Cx) (n : Nat) (f : Value) (args : List Value) (H : AH) (Q : Value → AH → Prop) : Prop :=
  ∀ A P s (R : Result → Shared → Prop), Rm n A → RH c P H s → ∀ as : List Value, as.map er = args →
    (∀ u s' H', RH c P H' s' → Q (er u) H' → R (.ok (.ret u)) s') → codeAny (Mo c) A (.call f ⟨as, []⟩) R s

section
variable {c : Cx} {P : PH} {H : AH} {env : Env} {m : Ms} {s s' : Shared}

theorem RH.fresh (F : RH c P H s) : P s.heap.objs.size = none ∧ H s.heap.objs.size = none := by
  constructor
  · cases h : P s.heap.objs.size with
    | none => rfl
    | some o => exact absurd (Heap.lt_size (F.keep _ _ h)) (Nat.lt_irrefl _)
  · cases h : H s.heap.objs.size with
    | none => rfl
    | some o => obtain ⟨_, _, ro, h', _⟩ := F.obj _ _ h; exact absurd (Heap.lt_size h') (Nat.lt_irrefl _)

theorem RH.large (F : RH c P H s) : 100 ≤ s.heap.objs.size := by
  obtain ⟨b, o, h1, h2⟩ := c.big
  exact Nat.le_trans h1 (Nat.le_of_lt (Heap.lt_size (F.keep _ _ (F.top _ _ h2))))

theorem RH.keeps {h' : Heap} {tk : Nat} (F : RH c P H s) (k : ∀ b o, s.heap.get? b = some o → h'.get? b = some o) : RH c P H { s with heap := h', toks := tk } :=
  ⟨F.top, fun b o e => k _ _ (F.keep b o e), fun a o e => let ⟨x, x2, ro, y, z⟩ := F.obj a o e; ⟨x, x2, ro, k _ _ y, z⟩, F.gens, F.os⟩
theorem RF.keeps {h' : Heap} {tk : Nat} (F : RF c P H env m s) (k : ∀ b o, s.heap.get? b = some o → h'.get? b = some o) : RF c P H env m { s with heap := h', toks := tk } :=
  ⟨F.toRH.keeps k, F.locP, F.locH, let ⟨nm, a, b⟩ := F.loc; ⟨nm, a.keeps k, fun x v e => (b x v e).imp id fun ⟨q, kk, u, l, cc, r⟩ => ⟨q, kk, u, l, cc.keeps k, r⟩⟩,
    fun x kk e => let ⟨a, b, v, d⟩ := F.cel x kk e; ⟨a, b, v, d.keeps k⟩, F.apart, F.own⟩
theorem RH.tok {tk : Nat} (F : RH c P H s) : RH c P H { s with toks := tk } := F.keeps (h' := s.heap) fun _ _ e => e
theorem RF.tok {tk : Nat} (F : RF c P H env m s) : RF c P H env m { s with toks := tk } := F.keeps (h' := s.heap) fun _ _ e => e
theorem RF.push (F : RF c P H env m s) (o : Obj) {tk : Nat} : RF c P H env m { s with heap := s.heap.push o, toks := tk } := F.keeps fun _ _ e => Heap.get?_push_of_some _ e

/-- a new object comes to be known -/
theorem RF.alloc {ro : Obj} {o : AObj} (F : RF c P H env m s) (hm : Mt c ro o) {tk : Nat} :
    RF c P (upd H s.heap.objs.size o) env m { s with heap := s.heap.push ro, toks := tk } := by
  have G := F.push ro (tk := tk)
  obtain ⟨oL, es, ep, hoL, _⟩ := F.loc.choose_spec.1
  have hl := Heap.lt_size hoL
  refine ⟨⟨G.top, G.keep, fun a o' e => ?_, G.gens, G.os⟩, G.locP, by rw [upd_ne _ _ (Nat.ne_of_lt hl)]; exact F.locH, G.loc, fun x k e => ?_, G.apart, G.own⟩
  · unfold upd at e
    split at e
    · rename_i q; cases e; subst q; exact ⟨F.toRH.fresh.1, F.toRH.large, ro, Heap.get?_push_size _ hm.alive, hm⟩
    · exact G.obj a o' e
  · obtain ⟨a, b, v, d⟩ := F.cel x k e
    obtain ⟨_, b', v', d'⟩ := G.cel x k e
    exact ⟨by rw [upd_ne _ _ (Nat.ne_of_lt d.lt)]; exact a, b', v', d'⟩
theorem RH.alloc {ro : Obj} {o : AObj} (F : RH c P H s) (hm : Mt c ro o) {tk : Nat} :
    RH c P (upd H s.heap.objs.size o) { s with heap := s.heap.push ro, toks := tk } := by
  have G := F.keeps (tk := tk) (h' := s.heap.push ro) fun _ _ e => Heap.get?_push_of_some _ e
  refine ⟨G.top, G.keep, fun a o' e => ?_, G.gens, G.os⟩
  unfold upd at e
  split at e
  · rename_i q; cases e; subst q; exact ⟨F.fresh.1, F.large, ro, Heap.get?_push_size _ hm.alive, hm⟩
  · exact G.obj a o' e

/-- a known object is changed -/
theorem RF.change {a : Addr} {o o' : AObj} {ro' : Obj} {h' : Heap} (F : RF c P H env m s) (ha : H a = some o) (hs : Heap.SameBut a s.heap h') (hr : h'.get? a = some ro') (hm : Mt c ro' o') {tk : Nat} :
    RF c P (upd H a o') env m { s with heap := h', toks := tk } := by
  obtain ⟨hP, h100, ro, _, _⟩ := F.obj a o ha
  have nL : env.locals ≠ a := fun e => by have := F.locH; rw [e, ha] at this; cases this
  have nC : ∀ x k, env.cells.lookup x = some k → k ≠ a := fun x k e q => by have := (F.cel x k e).1; rw [q, ha] at this; cases this
  refine ⟨⟨F.top, fun b ob e => (hs.2 b fun q => by rw [q, hP] at e; cases e).trans (F.keep b ob e), fun b ob e => ?_, F.gens, F.os⟩, F.locP, by rw [upd_ne _ _ nL]; exact F.locH, ?_, fun x k e => ?_, F.apart, F.own⟩
  · unfold upd at e
    split at e
    · rename_i q; cases e; subst q; exact ⟨hP, h100, ro', hr, hm⟩
    · rename_i q
      obtain ⟨x, x2, rb, y, z⟩ := F.obj b ob e
      exact ⟨x, x2, rb, (hs.2 b q).trans y, z⟩
  · obtain ⟨nm, a1, b1⟩ := F.loc
    refine ⟨nm, a1.sameBut hs nL, fun x v e => ?_⟩
    rcases b1 x v e with y | ⟨y1, k, u, l, cc, r⟩
    · exact .inl y
    · exact .inr ⟨y1, k, u, l, cc.sameBut hs (nC x k l), r⟩
  · obtain ⟨a1, b1, v, d⟩ := F.cel x k e
    exact ⟨by rw [upd_ne _ _ (nC x k e)]; exact a1, b1, v, d.sameBut hs (nC x k e)⟩

/-- the frame's name is bound (a local) -/
theorem RF.store {x : Str} {u : Value} {h' : Heap} {nm : Str → Option Value} (F : RF c P H env m s) (hk : env.kindOf x = some .local) (hn0 : s.heap.Ns env.locals nm)
    (hn : h'.Ns env.locals (fun y => if y = x then some u else nm y)) (hs : Heap.SameBut env.locals s.heap h') {tk : Nat} : RF c P H env (mset m x (er u)) { s with heap := h', toks := tk } := by
  have nC : ∀ x k, env.cells.lookup x = some k → k ≠ env.locals := fun x k e => (F.cel x k e).2.1
  refine ⟨⟨F.top, fun b ob e => (hs.2 b fun q => by rw [q, F.locP] at e; cases e).trans (F.keep b ob e), fun b ob e => ?_, F.gens, F.os⟩, F.locP, F.locH, ?_, fun x k e => ?_, F.apart, F.own⟩
  · obtain ⟨x, x2, rb, y, z⟩ := F.obj b ob e
    exact ⟨x, x2, rb, (hs.2 b fun q => by rw [q, F.locH] at e; cases e).trans y, z⟩
  · obtain ⟨nm', a1, b1⟩ := F.loc
    have e0 : nm' = nm := by
      obtain ⟨o, es, ep, x1, x2, _, x3⟩ := a1
      obtain ⟨o', es', ep', y1, y2, _, y3⟩ := hn0
      rw [x1] at y1; cases y1; rw [x2] at y2; cases y2
      funext z; rw [← x3, ← y3]
    subst e0
    refine ⟨_, hn, fun y v e => ?_⟩
    unfold mset at e
    split at e
    · rename_i q; cases e; subst q; exact .inl ⟨hk, u, if_pos rfl, rfl⟩
    · rename_i q
      rcases b1 y v e with ⟨z1, z2⟩ | ⟨y1, k, u', l, cc, r⟩
      · obtain ⟨w1, w2, w3⟩ := z2
        exact .inl ⟨z1, w1, (if_neg q).trans w2, w3⟩
      · exact .inr ⟨y1, k, u', l, cc.sameBut hs (nC y k l), r⟩
  · obtain ⟨a1, b1, v, d⟩ := F.cel x k e
    exact ⟨a1, b1, v, d.sameBut hs (nC x k e)⟩

/-- the frame's name is bound (a cell of its own) -/
theorem RF.storeC {x : Str} {k : Addr} {u : Value} {h' : Heap} (F : RF c P H env m s) (hk : env.kindOf x = some .cell) (hf : env.func.isSome = true) (hl : env.cells.lookup x = some k)
    (hn : h'.IsCell k (some u)) (hs : Heap.SameBut k s.heap h') {tk : Nat} : RF c P H env (mset m x (er u)) { s with heap := h', toks := tk } := by
  have hP := F.own hf x k hl
  obtain ⟨hH, hL, v0, d0⟩ := F.cel x k hl
  refine ⟨⟨F.top, fun b ob e => (hs.2 b fun q => by rw [q, hP] at e; cases e).trans (F.keep b ob e), fun b ob e => ?_, F.gens, F.os⟩, F.locP, F.locH, ?_, fun y k' e => ?_, F.apart, F.own⟩
  · obtain ⟨x, x2, rb, y, z⟩ := F.obj b ob e
    exact ⟨x, x2, rb, (hs.2 b fun q => by rw [q, hH] at e; cases e).trans y, z⟩
  · obtain ⟨nm, a1, b1⟩ := F.loc
    refine ⟨nm, a1.sameBut hs (Ne.symm hL), fun y v e => ?_⟩
    unfold mset at e
    split at e
    · rename_i q; cases e; subst q; exact .inr ⟨hk, k, u, hl, hn, rfl⟩
    · rename_i q
      rcases b1 y v e with z | ⟨y1, k', u', l, cc, r⟩
      · exact .inl z
      · exact .inr ⟨y1, k', u', l, cc.sameBut hs fun z => q (F.apart _ _ _ (z ▸ l) hl), r⟩
  · obtain ⟨a1, b1, v, d⟩ := F.cel y k' e
    by_cases q : k' = k
    · subst q; exact ⟨a1, b1, _, hn⟩
    · exact ⟨a1, b1, v, d.sameBut hs q⟩
end

section
variable {c : Cx} {A : Around} {env : Env} {H : AH} {m : Ms}
theorem EV.mono {t : Sem Value} {Q Q' : Value → AH → Prop} (h : EV c A env t H m Q) (q : ∀ v H', Q v H' → Q' v H') : EV c A env t H m Q' :=
  fun P s E F => wpAny_mono (h P s E F) (fun _ _ ⟨H', F', x⟩ => ⟨H', F', q _ _ x⟩) fun _ _ e => e
theorem EX.mono {t : Sem Flow} {Q Q' : Flow → AH → Ms → Prop} (h : EX c A env t H m Q) (q : ∀ f H' m', Q f H' m' → Q' f H' m') : EX c A env t H m Q' :=
  fun P s E F => wpAny_mono (h P s E F) (fun _ _ ⟨H', m', F', x⟩ => ⟨H', m', F', q _ _ _ x⟩) fun _ _ e => e
theorem FN.mono {n : Nat} {f : Value} {args : List Value} {Q Q' : Value → AH → Prop} (h : FN c n f args H Q) (q : ∀ v H', Q v H' → Q' v H') : FN c n f args H Q' :=
  fun A P s R hR F as e k => h A P s R hR F as e fun u s' H' F' x => k u s' H' F' (q _ _ x)
theorem Rm.le {n k : Nat} (h : Rm n A) (l : k ≤ n) : Rm k A := ⟨h.1, by have := h.2.1; (exact om1 l this), by have := h.2.2; (exact om2 l this)⟩
theorem Rm.units {n : Nat} (h : Rm n A) : A.units < cLine := by have := h.2.2; have e : cLine = 9900 := rfl; (exact om3 this e)
theorem FN.le {n k : Nat} {f : Value} {args : List Value} {Q : Value → AH → Prop} (h : FN c n f args H Q) (l : n ≤ k) : FN c k f args H Q :=
  fun A P s R hR => h A P s R (hR.le l)
end
end Mine

namespace Mine
open PySem PySem.W PySem.Calls PyProof.Rows

section
variable {c : Cx} {P : PH} {H : AH} {env : Env} {m : Ms} {s s' : Shared}

/-- a function's frame set aside while another runs -/
theorem RF.enter (F : RF c P H env m s) : ∃ P', RH c P' H s ∧ (∀ b o, P b = some o → P' b = some o) ∧ P' env.locals ≠ none ∧ (∀ x k, env.cells.lookup x = some k → P' k ≠ none) ∧ (∀ b, b ≠ env.locals → (∀ x, env.cells.lookup x ≠ some b) → P' b = P b) ∧ ∀ H' s', RH c P' H' s' → RF c P H' env m s' := by
  classical
  let sp : Addr → Prop := fun b => b = env.locals ∨ ∃ x, env.cells.lookup x = some b
  let P' : PH := fun b => if sp b then s.heap.get? b else P b
  have le : ∀ b o, P b = some o → P' b = some o := fun b o e => by
    show (if sp b then s.heap.get? b else P b) = some o
    split
    · exact F.keep _ _ e
    · exact e
  have inv : ∀ a, P' a = none → P a = none := fun a e => by
    cases q : P a with
    | none => rfl
    | some o => rw [le _ _ q] at e; cases e
  have atL : P' env.locals = s.heap.get? env.locals := if_pos (.inl rfl)
  have atC : ∀ x k, env.cells.lookup x = some k → P' k = s.heap.get? k := fun x k e => if_pos (.inr ⟨x, e⟩)
  obtain ⟨nm, hn, hb⟩ := F.loc
  obtain ⟨oL, es, ep, hoL, hLr⟩ := id hn
  have nL : P' env.locals ≠ none := by rw [atL, hoL]; exact fun e => nomatch e
  have nC : ∀ x k, env.cells.lookup x = some k → P' k ≠ none := fun x k e => by
    obtain ⟨_, _, v, o, ho, _⟩ := F.cel x k e
    rw [atC x k e, ho]; exact fun e => nomatch e
  refine ⟨P', ⟨fun b o e => le _ _ (F.top _ _ e), fun b o e => ?_, fun a o e => ?_, F.gens, F.os⟩, le, nL, nC, fun b h1 h2 => if_neg (by rintro (q | ⟨x, q⟩); exact h1 q; exact h2 x q), fun H' s' F' => ?_⟩
  · change (if sp b then s.heap.get? b else P b) = some o at e
    split at e
    · exact e
    · exact F.keep _ _ e
  · obtain ⟨x1, x2, x3⟩ := F.obj a o e
    refine ⟨?_, x2, x3⟩
    show (if sp a then s.heap.get? a else P a) = none
    rw [if_neg]
    · exact x1
    · rintro (q | ⟨x, q⟩)
      · have := F.locH; rw [← q, e] at this; cases this
      · have := (F.cel x a q).1; rw [e] at this; cases this
  · refine ⟨⟨F.top, fun b o e => F'.keep _ _ (le _ _ e), fun a o e => ?_, F'.gens, F'.os⟩, F.locP, ?_, ?_, fun x k e => ?_, F.apart, F.own⟩
    · obtain ⟨x1, x2⟩ := F'.obj a o e; exact ⟨inv _ x1, x2⟩
    · cases q : H' env.locals with
      | none => rfl
      | some o => exact absurd (F'.obj _ _ q).1 nL
    · refine ⟨nm, ⟨oL, es, ep, F'.keep _ _ (by rw [atL]; exact hoL), hLr⟩, fun x v e => ?_⟩
      rcases hb x v e with z | ⟨z, k, u, l, ⟨o, ho, hd⟩, r⟩
      · exact .inl z
      · exact .inr ⟨z, k, u, l, ⟨o, F'.keep _ _ (by rw [atC x k l]; exact ho), hd⟩, r⟩
    · obtain ⟨a1, b1, v, o, ho, hd⟩ := F.cel x k e
      refine ⟨?_, b1, v, o, F'.keep _ _ (by rw [atC x k e]; exact ho), hd⟩
      cases q : H' k with
      | none => rfl
      | some o => exact absurd (F'.obj _ _ q).1 (nC x k e)

noncomputable def ins (P : PH) (b : Addr) (o : Obj) : PH := fun a => if a = b then some o else P a
theorem ins_self (P : PH) (b : Addr) (o : Obj) : ins P b o b = some o := if_pos rfl
theorem ins_ne (P : PH) {a b : Addr} (o : Obj) (h : a ≠ b) : ins P b o a = P a := if_neg h
theorem RH.top_none {b : Addr} (F : RH c P H s) (h : P b = none) : c.T.get? b = none := by
  cases q : c.T.get? b with
  | none => rfl
  | some o => rw [F.top _ _ q] at h; cases h

/-- an object that is nobody's is set aside -/
theorem RF.guard {b : Addr} {o : Obj} (F : RF c P H env m s) (hb : s.heap.get? b = some o) (hT : P b = none) (hH : H b = none) (hL : b ≠ env.locals) (hC : ∀ x, env.cells.lookup x ≠ some b) :
    RF c (ins P b o) H env m s := by
  have nT := F.toRH.top_none hT
  refine ⟨⟨fun a o' e => ?_, fun a o' e => ?_, fun a o' e => ?_, F.gens, F.os⟩, ?_, F.locH, F.loc, F.cel, F.apart, fun hf x k e => ?_⟩
  · rw [ins_ne]
    · exact F.top _ _ e
    · rintro rfl; rw [nT] at e; cases e
  · by_cases q : a = b
    · subst q; rw [ins_self] at e; cases e; exact hb
    · rw [ins_ne _ _ q] at e; exact F.keep _ _ e
  · obtain ⟨x1, x2⟩ := F.obj a o' e
    refine ⟨?_, x2⟩
    rw [ins_ne]
    · exact x1
    · rintro rfl; rw [hH] at e; cases e
  · rw [ins_ne _ _ (Ne.symm hL)]; exact F.locP
  · rw [ins_ne]
    · exact F.own hf x k e
    · rintro rfl; exact hC x e
theorem RF.unguard {b : Addr} {o : Obj} (F : RF c (ins P b o) H env m s) (hT : P b = none) (hT2 : c.T.get? b = none) :
    RF c P H env m s ∧ s.heap.get? b = some o ∧ H b = none ∧ b ≠ env.locals := by
  have up : ∀ a, ins P b o a = none → P a = none ∧ a ≠ b := fun a e => by
    by_cases q : a = b
    · subst q; rw [ins_self] at e; cases e
    · exact ⟨by rw [ins_ne _ _ q] at e; exact e, q⟩
  have hbH : H b = none := by
    cases q : H b with
    | none => rfl
    | some x => exact absurd rfl (up _ (F.obj _ _ q).1).2
  have dn : ∀ a o', a ≠ b → ins P b o a = some o' → P a = some o' := fun a o' q e => by rw [ins_ne _ _ q] at e; exact e
  refine ⟨⟨⟨fun a o' e => dn _ _ (by rintro rfl; rw [hT2] at e; cases e) (F.top _ _ e), fun a o' e => F.keep _ _ ?_, fun a o' e => let ⟨x1, x2⟩ := F.obj a o' e; ⟨(up _ x1).1, x2⟩, F.gens, F.os⟩, (up _ F.locP).1, F.locH, F.loc, F.cel, F.apart,
    fun hf x k e => (up _ (F.own hf x k e)).1⟩, F.keep _ _ (ins_self ..), hbH, Ne.symm (up _ F.locP).2⟩
  rw [ins_ne]
  · exact e
  · rintro rfl; rw [hT] at e; cases e
end
end Mine

namespace Mine
open PySem PySem.W PySem.Calls PyProof.Rows

noncomputable abbrev I (n : Int) : Value := .int n 0
noncomputable abbrev S (x : Str) : Value := .str x 0
noncomputable abbrev Rf (a : Addr) : Value := .ref a

/-- what the top gives: its objects, its names -/
structure Gl (c : Cx) (K : Frag) : Prop where
  k : K.In c.T
  g : ∃ mg, c.T.Ns mainGlobals mg
  b : ∃ mb, c.T.Ns builtinsNs mb ∧ ∀ x : Str, x ≠ "__name__" → mb x = bootBuiltins x
  lim : c.T.NoLimit

section
variable {c : Cx} {P : PH} {H : AH} {env : Env} {m : Ms} {s : Shared} {A : Around} {K : Frag}

theorem RH.kept (F : RH c P H s) : ∀ b o, c.T.get? b = some o → s.heap.get? b = some o := fun b o e => F.keep _ _ (F.top _ _ e)
theorem RH.inK (F : RH c P H s) (G : Gl c K) : K.In s.heap := G.k.keeps F.kept

theorem EV.name {x : Str} {pos : Pos} {v : Value} {Q : Value → AH → Prop} (hx : m x = some v) (q : Q v H) (hk : autoParam (env.scope.kind = .function) autoRfl) (hd : autoParam ((x == ("__debug__" : Str)) = false) autoDec) :
    EV c A env (eval (.Name x pos) env) H m Q := fun P s E F => by
  obtain ⟨nm, hn, hb⟩ := F.loc
  rcases hb x v hx with ⟨l, u, hu, e⟩ | ⟨l, k, u, hl, hc, e⟩
  · exact wpAny_Name (wpAny_loadName_local hk l hn hu ⟨H, F, e ▸ q⟩) hd
  · exact wpAny_Name (wpAny_loadName_cell hk l hl hc ⟨H, F, e ▸ q⟩) hd

theorem EV.global {x : Str} {pos : Pos} {v : Value} {Q : Value → AH → Prop} (G : Gl c K) (e : nsIn K mainGlobals x = some (some v)) (q : Q (er v) H)
    (hk : autoParam (env.scope.kind = .function) autoRfl) (hx : autoParam (env.kindOf x = some .globalImplicit) autoRfl) (hg : autoParam (env.globals = mainGlobals) autoRfl) (hd : autoParam ((x == ("__debug__" : Str)) = false) autoDec) :
    EV c A env (eval (.Name x pos) env) H m Q := fun P s E F => by
  obtain ⟨mg, g⟩ := G.g
  have hv := mg_of G.k g e
  exact Name_function_global hk hx (loadGlobal_global (hg ▸ g.keeps F.toRH.kept) hv ⟨H, F, q⟩) hd

theorem EV.builtin {x : Str} {pos : Pos} {v : Value} {Q : Value → AH → Prop} (G : Gl c K) (e : nsIn K mainGlobals x = some none) (hv : bootBuiltins x = some v) (q : Q (er v) H) (hn : autoParam (x ≠ "__name__") autoDec)
    (hk : autoParam (env.scope.kind = .function) autoRfl) (hx : autoParam (env.kindOf x = some .globalImplicit) autoRfl) (hg : autoParam (env.globals = mainGlobals) autoRfl) (hbb : autoParam (env.builtins = builtinsNs) autoRfl) (hd : autoParam ((x == ("__debug__" : Str)) = false) autoDec) :
    EV c A env (eval (.Name x pos) env) H m Q := fun P s E F => by
  obtain ⟨mg, g⟩ := G.g
  obtain ⟨mb, b, hb⟩ := G.b
  have hm := mg_none_of G.k g e
  exact Name_function_global hk hx (loadGlobal_builtin (hg ▸ g.keeps F.toRH.kept) hm (hbb ▸ b.keeps F.toRH.kept) ((hb x hn).trans hv) ⟨H, F, q⟩) hd

theorem EV.int {i : Int} {k : Nat} {pos : Pos} {Q : Value → AH → Prop} (q : Q (I i) H) : EV c A env (eval (.Constant (.int i) k pos) env) H m Q :=
  fun P s E F => wpAny_Constant_int ⟨H, F.tok, q⟩
theorem EV.str {x : Str} {k : Nat} {pos : Pos} {Q : Value → AH → Prop} (q : Q (S x) H) : EV c A env (eval (.Constant (.str x) k pos) env) H m Q :=
  fun P s E F => wpAny_Constant_str ⟨H, F.tok, q⟩
theorem EV.bool {b : Bool} {k : Nat} {pos : Pos} {Q : Value → AH → Prop} (q : Q (.bool b) H) : EV c A env (eval (.Constant (.bool b) k pos) env) H m Q :=
  fun P s E F => wpAny_Constant_bool ⟨H, F, q⟩
theorem EV.non {k : Nat} {pos : Pos} {Q : Value → AH → Prop} (q : Q .none H) : EV c A env (eval (.Constant .none k pos) env) H m Q :=
  fun P s E F => wpAny_Constant_none ⟨H, F, q⟩

/-- an operator on two values -/
noncomputable def BO (c : Cx) (A : Around) (op : Operator) (a b r : Value) : Prop :=
  ∀ (s : Shared) (E : Value → Shared → Prop) (Q : Value → Shared → Prop) u v, er u = a → er v = b → (∀ w tk, er w = r → Q w { s with toks := tk }) → wpAny (Mo c) A (binaryOp op u v) Q E s

theorem BO.add {a b : Int} : BO c A .Add (I a) (I b) (I (a + b)) := fun s E Q u v ha hb k => by
  obtain ⟨t, rfl⟩ := er_int ha; obtain ⟨t', rfl⟩ := er_int hb; exact PyProof.Rows.add_int (k _ _ rfl)
theorem BO.sub {a b : Int} : BO c A .Sub (I a) (I b) (I (a - b)) := fun s E Q u v ha hb k => by
  obtain ⟨t, rfl⟩ := er_int ha; obtain ⟨t', rfl⟩ := er_int hb; exact PyProof.Rows.sub_int (k _ _ rfl)
theorem BO.mul {a b : Int} (h : a.natAbs < 2 ^ 64) : BO c A .Mult (I a) (I b) (I (a * b)) := fun s E Q u v ha hb k => by
  obtain ⟨t, rfl⟩ := er_int ha; obtain ⟨t', rfl⟩ := er_int hb; exact PyProof.Rows.mul_int (k _ _ rfl) (IntMulOk.of_left (intBits_le h))
theorem BO.floordiv {a b : Int} (h : b ≠ 0) (hs : b.natAbs < 2 ^ 64) : BO c A .FloorDiv (I a) (I b) (I (a.fdiv b)) := fun s E Q u v ha hb k => by
  obtain ⟨t, rfl⟩ := er_int ha; obtain ⟨t', rfl⟩ := er_int hb; exact PyProof.Rows.floordiv_int h (k _ _ rfl) (.inl (PyProof.noPylong_of_log2 (by have := (Nat.log2_lt (n := b.natAbs) (k := 64) (by omega)).mpr hs; (exact om4 this))))
theorem BO.mod {a b : Int} (h : b ≠ 0) : BO c A .Mod (I a) (I b) (I (a.fmod b)) := fun s E Q u v ha hb k => by
  obtain ⟨t, rfl⟩ := er_int ha; obtain ⟨t', rfl⟩ := er_int hb; exact PyProof.Rows.mod_int h (k _ _ rfl)
theorem BO.pow {a n : Int} (hn : 0 ≤ n) (hn2 : n ≤ 1000000) (h : a.natAbs < 2 ^ 64) : BO c A .Pow (I a) (I n) (I (a ^ n.toNat)) := fun s E Q u v ha hb k => by
  obtain ⟨t, rfl⟩ := er_int ha; obtain ⟨t', rfl⟩ := er_int hb; exact PyProof.Rows.pow_int_small hn hn2 h (k _ _ rfl)
theorem BO.shl {a n : Int} (hn : 0 ≤ n) (hn2 : n ≤ 1000000) (h : a.natAbs < 2 ^ 64) : BO c A .LShift (I a) (I n) (I (a * 2 ^ n.toNat)) := fun s E Q u v ha hb k => by
  obtain ⟨t, rfl⟩ := er_int ha; obtain ⟨t', rfl⟩ := er_int hb; exact PyProof.Rows.lshift_int_small hn hn2 h (k _ _ rfl)
theorem BO.shr {a n : Int} (hn : 0 ≤ n) : BO c A .RShift (I a) (I n) (I (a.fdiv (2 ^ n.toNat))) := fun s E Q u v ha hb k => by
  obtain ⟨t, rfl⟩ := er_int ha; obtain ⟨t', rfl⟩ := er_int hb; exact PyProof.Rows.rshift_int hn (k _ _ rfl)
theorem BO.band {a b : Int} : BO c A .BitAnd (I a) (I b) (I (Builtin.bitAnd a b)) := fun s E Q u v ha hb k => by
  obtain ⟨t, rfl⟩ := er_int ha; obtain ⟨t', rfl⟩ := er_int hb; exact PyProof.Rows.and_int (k _ _ rfl)
theorem BO.bor {a b : Int} : BO c A .BitOr (I a) (I b) (I (Builtin.bitOr a b)) := fun s E Q u v ha hb k => by
  obtain ⟨t, rfl⟩ := er_int ha; obtain ⟨t', rfl⟩ := er_int hb; exact PyProof.Rows.or_int (k _ _ rfl)

theorem EV.bin {l r : Expr} {op : Operator} {pos : Pos} {Q : Value → AH → Prop}
    (h : EV c A env (eval l env) H m (fun a H1 => EV c A env (eval r env) H1 m (fun b H2 => ∃ x, BO c A op a b x ∧ Q x H2))) : EV c A env (eval (.BinOp l op r pos) env) H m Q :=
  fun P s E F => wpAny_BinOp (wpAny_mono (h P s E F) (fun u s1 ⟨_, F1, h1⟩ => wpAny_mono (h1 P s1 E F1) (fun v s2 ⟨H2, F2, _, hb, q⟩ => hb s2 E _ u v rfl rfl fun w tk e => ⟨H2, F2.tok, e ▸ q⟩) fun _ _ e => e) fun _ _ e => e)
theorem EV.neg {x : Expr} {pos : Pos} {Q : Value → AH → Prop}
    (h : EV c A env (eval x env) H m (fun a H1 => ∃ i, a = I i ∧ Q (I (-i)) H1)) : EV c A env (eval (.UnaryOp .USub x pos) env) H m Q :=
  fun P s E F => UnaryOp_ (wpAny_mono (h P s E F) (fun u s1 ⟨H1, F1, i, e, q⟩ => by obtain ⟨t, rfl⟩ := er_int e; exact PyProof.Rows.neg_int ⟨H1, F1.tok, q⟩) fun _ _ e => e)

/-- a comparison that gives a bool -/
noncomputable def CO (c : Cx) (A : Around) (env : Env) (H : AH) (m : Ms) (op : CmpOp) (a b : Value) (t : Bool) : Prop :=
  ∀ P s E (Q : Value → Shared → Prop) u v, RF c P H env m s → er u = a → er v = b → (∀ s', RF c P H env m s' → Q (.bool t) s') → wpAny (Mo c) A (compareOp op u v) Q E s

theorem CO.lt {a b : Int} : CO c A env H m .Lt (I a) (I b) (decide (a < b)) := fun P s E Q u v F ha hb k => by
  obtain ⟨t, rfl⟩ := er_int ha; obtain ⟨t', rfl⟩ := er_int hb; exact PyProof.Rows.lt_int (k _ F)
theorem CO.le {a b : Int} : CO c A env H m .LtE (I a) (I b) (decide (a ≤ b)) := fun P s E Q u v F ha hb k => by
  obtain ⟨t, rfl⟩ := er_int ha; obtain ⟨t', rfl⟩ := er_int hb; exact PyProof.Rows.le_int (k _ F)
theorem CO.gt {a b : Int} : CO c A env H m .Gt (I a) (I b) (decide (b < a)) := fun P s E Q u v F ha hb k => by
  obtain ⟨t, rfl⟩ := er_int ha; obtain ⟨t', rfl⟩ := er_int hb; exact PyProof.Rows.gt_int (k _ F)
theorem CO.ge {a b : Int} : CO c A env H m .GtE (I a) (I b) (decide (b ≤ a)) := fun P s E Q u v F ha hb k => by
  obtain ⟨t, rfl⟩ := er_int ha; obtain ⟨t', rfl⟩ := er_int hb; exact PyProof.Rows.ge_int (k _ F)
theorem CO.eq {a b : Int} : CO c A env H m .Eq (I a) (I b) (decide (a = b)) := fun P s E Q u v F ha hb k => by
  obtain ⟨t, rfl⟩ := er_int ha; obtain ⟨t', rfl⟩ := er_int hb
  refine PyProof.Rows.eq_int ?_
  rw [show (a == b) = decide (a = b) from by by_cases q : a = b <;> simp [q]]; exact k _ F
theorem CO.ne {a b : Int} : CO c A env H m .NotEq (I a) (I b) (decide (a ≠ b)) := fun P s E Q u v F ha hb k => by
  obtain ⟨t, rfl⟩ := er_int ha; obtain ⟨t', rfl⟩ := er_int hb
  refine PyProof.Rows.ne_int ?_
  rw [show (a != b) = decide (a ≠ b) from by by_cases q : a = b <;> simp [q, bne]]; exact k _ F

theorem EV.cmp {l r : Expr} {op : CmpOp} {pos : Pos} {Q : Value → AH → Prop}
    (h : EV c A env (eval l env) H m (fun a H1 => EV c A env (eval r env) H1 m (fun b H2 => ∃ t, CO c A env H2 m op a b t ∧ Q (.bool t) H2)))
    (hm : behindInMarks op r = false := by with_unfolding_all rfl) : EV c A env (eval (.Compare l [op] [r] pos) env) H m Q :=
  fun P s E F => wpAny_Compare1 (wpAny_mono (h P s E F) (fun u s1 ⟨_, F1, h1⟩ => wpAny_mono (h1 P s1 E F1) (fun v s2 ⟨H2, F2, _, hb, q⟩ => hb P s2 E _ u v F2 rfl rfl fun s' F' => ⟨H2, F', q⟩) fun _ _ e => e) fun _ _ e => e) hm

/-- a test -/
noncomputable def IT (c : Cx) (A : Around) (env : Env) (e : Expr) (H : AH) (m : Ms) (Q : Bool → AH → Prop) : Prop :=
  ∀ P s E whole, whole = eval e env → RF c P H env m s → wpAny (Mo c) A (isTrue e env whole) (fun b s' => ∃ H', RF c P H' env m s' ∧ Q b H') E s
theorem IT.mono {e : Expr} {Q Q' : Bool → AH → Prop} (h : IT c A env e H m Q) (q : ∀ v H', Q v H' → Q' v H') : IT c A env e H m Q' :=
  fun P s E w hw F => wpAny_mono (h P s E w hw F) (fun _ _ ⟨H', F', x⟩ => ⟨H', F', q _ _ x⟩) fun _ _ e => e

theorem IT.cmp {l r : Expr} {op : CmpOp} {pos : Pos} {Q : Bool → AH → Prop}
    (h : EV c A env (eval l env) H m (fun a H1 => EV c A env (eval r env) H1 m (fun b H2 => ∃ t, CO c A env H2 m op a b t ∧ Q t H2)))
    (hm : behindInMarks op r = false := by with_unfolding_all rfl) : IT c A env (.Compare l [op] [r] pos) H m Q :=
  fun P s E w _ F => wpAny_isTrue_Compare1 (wpAny_mono (h P s E F) (fun u s1 ⟨_, F1, h1⟩ => wpAny_mono (h1 P s1 E F1) (fun v s2 ⟨H2, F2, _, hb, q⟩ => hb P s2 E _ u v F2 rfl rfl fun s' F' => wpAny_truthy_bool ⟨H2, F', q⟩) fun _ _ e => e) fun _ _ e => e) hm

theorem IT.chain {l r1 r2 : Expr} {op1 op2 : CmpOp} {pos : Pos} {Q : Bool → AH → Prop}
    (h : EV c A env (eval l env) H m (fun a H1 => EV c A env (eval r1 env) H1 m (fun b H2 => ∃ t, CO c A env H2 m op1 a b t ∧ (t = false → Q false H2) ∧
      (t = true → EV c A env (eval r2 env) H2 m (fun d H3 => ∃ t', CO c A env H3 m op2 b d t' ∧ Q t' H3)))))
    (hm : lastMarks [op1, op2] [r1, r2] = false := by with_unfolding_all rfl) : IT c A env (.Compare l [op1, op2] [r1, r2] pos) H m Q :=
  fun P s E w _ F => isTrue_chain (rs := []) (wpAny_mono (h P s E F) (fun u s1 ⟨_, F1, h1⟩ => test_link (wpAny_mono (h1 P s1 E F1) (fun v s2 ⟨H2, F2, t, hb, q1, q2⟩ => hb P s2 E _ u v F2 rfl rfl fun s' F' => wpAny_truthy_bool (by
    cases t with
    | false => exact ⟨H2, F', q1 rfl⟩
    | true => exact test_last (wpAny_mono (q2 rfl P s' E F') (fun d s3 ⟨H3, F3, _, hb', q'⟩ => hb' P s3 E _ v d F3 rfl rfl fun s4 F4 => wpAny_truthy_bool ⟨H3, F4, q'⟩) fun _ _ e => e))) fun _ _ e => e)) fun _ _ e => e) hm

noncomputable def tr : Value → Option Bool
  | .bool b => some b
  | .int i _ => some (i != 0)
  | _ => none
theorem wpAny_tr {E : Value → Shared → Prop} {u : Value} {t : Bool} {Q : Bool → Shared → Prop} (h : tr (er u) = some t) (q : Q t s) : wpAny (Mo c) A (truthy u) Q E s := by
  cases u <;> simp [er, tr] at h
  · subst h; exact wpAny_truthy_bool q
  · subst h; exact PyProof.Rows.truthy_int q
theorem IT.val {e : Expr} {Q : Bool → AH → Prop} (h : EV c A env (eval e env) H m (fun v H1 => ∃ t, tr v = some t ∧ Q t H1))
    (he : autoParam (∀ whole, isTrue e env whole = (do let v ← whole; standAt e.pos; holding [v] (truthy v))) autoRfl1) : IT c A env e H m Q :=
  fun P s E w hw F => isTrue_plain (by subst hw; exact wpAny_mono (h P s E F) (fun u s1 ⟨H1, F1, t, ht, q⟩ => wpAny_tr ht ⟨H1, F1, q⟩) fun _ _ e => e) (he w)
theorem IT.and_nil {pos : Pos} {Q : Bool → AH → Prop} (q : Q true H) : IT c A env (.BoolOp .And [] pos) H m Q := fun P s E w _ F => isTrue_and_nil ⟨H, F, q⟩
theorem IT.or_nil {pos : Pos} {Q : Bool → AH → Prop} (q : Q false H) : IT c A env (.BoolOp .Or [] pos) H m Q := fun P s E w _ F => isTrue_or_nil ⟨H, F, q⟩
theorem isTrue_and_any (rest : List Expr) (pos : Pos) (w w' : Sem Value) : isTrue (.BoolOp .And rest pos) env w = isTrue (.BoolOp .And rest pos) env w' := rfl
theorem isTrue_or_any (rest : List Expr) (pos : Pos) (w w' : Sem Value) : isTrue (.BoolOp .Or rest pos) env w = isTrue (.BoolOp .Or rest pos) env w' := rfl
theorem IT.and {x : Expr} {rest : List Expr} {pos : Pos} {Q : Bool → AH → Prop} (h : IT c A env x H m (fun t H1 => if t then IT c A env (.BoolOp .And rest pos) H1 m Q else Q false H1)) :
    IT c A env (.BoolOp .And (x :: rest) pos) H m Q := fun P s E w _ F => isTrue_and (wpAny_mono (h P s E _ rfl F) (fun t s1 q9 => by
      obtain ⟨H1, F1, q⟩ := q9
      cases t with
      | false => exact ⟨H1, F1, q⟩
      | true => exact isTrue_and_any rest pos _ w ▸ q P s1 E _ rfl F1) fun _ _ e => e)
theorem IT.or {x : Expr} {rest : List Expr} {pos : Pos} {Q : Bool → AH → Prop} (h : IT c A env x H m (fun t H1 => if t then Q true H1 else IT c A env (.BoolOp .Or rest pos) H1 m Q)) :
    IT c A env (.BoolOp .Or (x :: rest) pos) H m Q := fun P s E w _ F => isTrue_or (wpAny_mono (h P s E _ rfl F) (fun t s1 q9 => by
      obtain ⟨H1, F1, q⟩ := q9
      cases t with
      | true => exact ⟨H1, F1, q⟩
      | false => exact isTrue_or_any rest pos _ w ▸ q P s1 E _ rfl F1) fun _ _ e => e)

theorem EV.ifexp {test body orelse : Expr} {pos : Pos} {Q : Value → AH → Prop}
    (h : IT c A env test H m (fun t H1 => if t then EV c A env (eval body env) H1 m Q else EV c A env (eval orelse env) H1 m Q)) : EV c A env (eval (.IfExp test body orelse pos) env) H m Q :=
  fun P s E F => IfExp_ (wpAny_mono (h P s E _ rfl F) (fun t s1 q9 => by
    obtain ⟨H1, F1, q⟩ := q9
    cases t with
    | false => exact q P s1 E F1
    | true => exact q P s1 E F1) fun _ _ e => e)
theorem EV.and2 {e1 e2 : Expr} {pos : Pos} {Q : Value → AH → Prop}
    (h : EV c A env (eval e1 env) H m (fun v H1 => ∃ t, v = .bool t ∧ if t then EV c A env (eval e2 env) H1 m Q else Q (.bool false) H1)) : EV c A env (eval (.BoolOp .And [e1, e2] pos) env) H m Q :=
  fun P s E F => BoolOp_and (wpAny_mono (h P s E F) (fun u s1 q9 => by
    obtain ⟨H1, F1, t, ht, q⟩ := q9
    have := er_bool ht; subst this
    refine wpAny_truthy_bool ?_
    cases t with
    | false => exact ⟨H1, F1, q⟩
    | true => exact BoolOp_one (q P s1 E F1)) fun _ _ e => e)

/-- a list of arguments -/
noncomputable def EVs (c : Cx) (A : Around) (env : Env) (pos : Pos) (es : List Expr) (H : AH) (m : Ms) (Q : List Value → AH → Prop) : Prop :=
  ∀ P s E, RF c P H env m s → wpAny (Mo c) A (spliced (backTo pos (starEach es env))) (fun us s' => ∃ H', RF c P H' env m s' ∧ Q (us.map er) H') E s
theorem EVs.nil {pos : Pos} {Q : List Value → AH → Prop} (q : Q [] H) : EVs c A env pos [] H m Q := fun P s E F => spliced_nil ⟨H, F, q⟩
theorem EVs.cons {pos : Pos} {e : Expr} {rest : List Expr} {Q : List Value → AH → Prop} (h : EV c A env (eval e env) H m (fun v H1 => EVs c A env pos rest H1 m (fun vs H2 => Q (v :: vs) H2)))
    (he : autoParam (starEach (e :: rest) env = (false, eval e env) :: starEach rest env) autoRfl) : EVs c A env pos (e :: rest) H m Q := fun P s E F => by
  rw [he]
  exact spliced_cons (wpAny_mono (h P s E F) (fun u s1 ⟨_, F1, h1⟩ => wpAny_mono (h1 P s1 E F1) (fun us s2 ⟨H2, F2, q⟩ => ⟨H2, F2, q⟩) fun _ _ e => e) fun _ _ e => e)

theorem EV.list {es : List Expr} {pos : Pos} {Q : Value → AH → Prop} (hz : es.length ≤ 64) (h : EVs c A env pos es H m (fun vs H1 => vs.length ≤ 64 ∧ ∀ a, H1 a = Option.none → Q (Rf a) (upd H1 a (.list vs)))) :
    EV c A env (eval (.List es pos) env) H m Q := fun P s E F => List_ (wpAny_mono (h P s E F) (fun us s1 q9 => by
      obtain ⟨H1, F1, hl, q⟩ := q9
      refine wpAny_newObj_type ⟨_, F1.alloc (o := .list (us.map er)) ⟨us.toArray, 0, rfl, by simp⟩, q _ F1.toRH.fresh.2⟩ ?_
      show us.toArray.size ≤ sizeLine
      rw [List.size_toArray, sizeLine_eq]; rw [List.length_map] at hl; (exact om5 hl)) fun _ _ e => e)
theorem EV.tup {es : List Expr} {k : Nat} {pos : Pos} {Q : Value → AH → Prop} (h : EVs c A env pos es H m (fun vs H1 => vs.length ≤ 64 ∧ ∀ a, H1 a = Option.none → Q (Rf a) (upd H1 a (.tup vs)))) :
    EV c A env (eval (.Tuple es k pos) env) H m Q := fun P s E F => Tuple_ (wpAny_mono (h P s E F) (fun us s1 q9 => by
      obtain ⟨H1, F1, hl, q⟩ := q9
      refine wpAny_newObj_type ⟨_, F1.alloc (o := .tup (us.map er)) ⟨rfl, us.toArray, 0, rfl, by simp⟩, q _ F1.toRH.fresh.2⟩ ?_
      show us.toArray.size ≤ sizeLine
      rw [List.size_toArray, sizeLine_eq]; rw [List.length_map] at hl; (exact om5 hl)) fun _ _ e => e)
end
end Mine

namespace Mine
open PySem PySem.W PySem.Calls PyProof.Rows

/-- a plain class of the top -/
structure Cls (K : Frag) (C : Addr) : Prop where
  ga : findIn K (.ref C) "__getattribute__" = some (some (.builtin "object.__getattribute__"))
  gt : findIn K (.ref C) "__getattr__" = some none
  sa : findIn K (.ref C) "__setattr__" = some (some (.builtin "object.__setattr__"))
  po : plainOver K C = true
  hd : hasDictIn K C = true

noncomputable def nsput (name : Str) (v : Value) : List (Str × Value) → List (Str × Value)
  | [] => [(name, v)]
  | (k, u) :: r => if k == name then (k, v) :: r else (k, u) :: nsput name v r

noncomputable def nsE (e : DictEntry) : Str × Value := (keyS e.key, er e.val)
theorem isStr_keyS {v : Value} {x : Str} (h : ∃ y t, v = .str y t) : v.isStr x = (keyS v == x) := by obtain ⟨y, t, rfl⟩ := h; rfl
theorem putL_nsput {name : Str} {hsh : Int} {tk : Tok} {v : Value} : ∀ {rs : List DictEntry}, (∀ e ∈ rs, ∃ x t, e.key = .str x t) →
    (putL name hsh (.str name tk) v rs).map nsE = nsput name (er v) (rs.map nsE) ∧ (∀ e ∈ putL name hsh (.str name tk) v rs, ∃ x t, e.key = .str x t)
  | [], _ => ⟨rfl, fun e he => by cases he with | head => exact ⟨name, tk, rfl⟩ | tail _ h => cases h⟩
  | e :: r, h => by
    obtain ⟨ih1, ih2⟩ := putL_nsput (name := name) (hsh := hsh) (tk := tk) (v := v) (rs := r) fun e he => h e (.tail _ he)
    have he := h e (.head _)
    unfold putL
    rw [isStr_keyS he]
    cases q : keyS e.key == name with
    | true => 
      refine ⟨?_, ?_⟩
      · show _ :: _ = nsput name (er v) (nsE e :: r.map nsE)
        unfold nsput nsE; rw [if_pos q]
      · intro e' he'
        cases he' with
        | head => exact he
        | tail _ z => exact h _ (.tail _ z)
    | false =>
      refine ⟨?_, ?_⟩
      · show _ :: _ = nsput name (er v) (nsE e :: r.map nsE)
        unfold nsput nsE
        rw [if_neg (by rw [q]; exact Bool.false_ne_true)]
        exact congrArg _ ih1
      · intro e' he'
        cases he' with
        | head => exact he
        | tail _ z => exact ih2 _ z
theorem getL_ns {name : Str} : ∀ {rs : List DictEntry}, (∀ e ∈ rs, ∃ x t, e.key = .str x t) → ∃ r, getL name rs = some r ∧ r.map er = (rs.map nsE).lookup name
  | rs, h => by
    have key : ∀ rs : List DictEntry, (∀ e ∈ rs, ∃ x t, e.key = .str x t) → (rs.find? (·.key.isStr name)).map (fun e => er e.val) = (rs.map nsE).lookup name := by
      intro rs h
      induction rs with
      | nil => rfl
      | cons e r ih =>
        rw [List.find?_cons, isStr_keyS (h e (.head _)), List.map_cons, show nsE e = (keyS e.key, er e.val) from rfl, List.lookup_cons]
        cases q : keyS e.key == name with
        | true => rw [show (name == keyS e.key) = true from by rw [eq_of_beq q]; simp]; rfl
        | false =>
          rw [show (name == keyS e.key) = false from by
            cases z : name == keyS e.key with
            | false => rfl
            | true => rw [eq_of_beq z] at q; simp at q]
          exact ih fun e he => h e (.tail _ he)
    have noref : rs.any (·.refKey) = false := by
      rw [List.any_eq_false]
      intro e he
      obtain ⟨x, t, q⟩ := h e he
      unfold DictEntry.refKey; rw [q]; exact Bool.false_ne_true
    unfold getL
    cases q : rs.find? (·.key.isStr name) with
    | some e => exact ⟨some e.val, rfl, by rw [← key rs h, q]; rfl⟩
    | none => exact ⟨none, by rw [if_neg (by rw [noref]; exact Bool.false_ne_true)], by rw [← key rs h, q]; rfl⟩


section
variable {c : Cx} {P : PH} {H : AH} {env : Env} {m : Ms} {s : Shared} {A : Around} {K : Frag}

theorem RF.inst {x C d : Addr} {fs : List (Str × Value)} (F : RF c P H env m s) (hx : H x = some (.inst C d)) (hd : H d = some (.ns fs)) :
    ∃ sl rs n, InstAt s.heap x ⟨.ref C, some d, .plain, sl⟩ C (some (dictOf rs n)) ∧ s.heap.get? d = some (dictOf rs n) ∧ (∀ e ∈ rs, ∃ x t, e.key = .str x t) ∧ rs.map nsE = fs := by
  obtain ⟨_, _, ro, ho, sl, rfl⟩ := F.obj _ _ hx
  obtain ⟨_, _, rd, hrd, rs, n, rfl, hk, e⟩ := F.obj _ _ hd
  exact ⟨sl, rs, n, ⟨ho, rfl, rfl, hrd⟩, hrd, hk, e⟩

noncomputable def noB : Value → Bool
  | .builtin _ => false
  | _ => true
theorem handed_of {u : Value} (h : noB (er u) = true) : handedIn u = true := by cases u <;> first | rfl | cases h

theorem getAttr_ns {x C d : Addr} {fs : List (Str × Value)} {name : Str} {v : Value} {expr : Bool} {E : Value → Shared → Prop} {Q : Value → Shared → Prop} (F : RF c P H env m s) (G : Gl c K) (k : Cls K C) (hx : H x = some (.inst C d)) (hd : H d = some (.ns fs))
    (hn : findIn K (.ref C) name = some none) (hv : fs.lookup name = some v) (hb : noB v = true) (q : ∀ u s', RF c P H env m s' → er u = v → Q u s') : wpAny (Mo c) A (getAttr (.ref x) name expr) Q E s := by
  obtain ⟨sl, rs, n, Ia, _, hk, e⟩ := F.inst hx hd
  obtain ⟨r, hr, hr2⟩ := getL_ns (name := name) hk
  rw [e, hv] at hr2
  cases r with
  | none => cases hr2
  | some u =>
    have eu : er u = v := Option.some.inj hr2
    exact get_value (F.toRH.inK G) Ia k.ga (findObj_own k.hd hn rfl hr) (handed_of (eu ▸ hb)) (q u _ F.tok eu)

/-- every object but two -/
noncomputable def others (h : Heap) (d L : Addr) : List (Addr × Obj) := (List.range h.objs.size).filterMap fun b => if b = d ∨ b = L then none else (h.get? b).map fun o => (b, o)
theorem mem_others {h : Heap} {d L b : Addr} {o : Obj} : (b, o) ∈ others h d L ↔ h.get? b = some o ∧ b ≠ d ∧ b ≠ L := by
  unfold others
  rw [List.mem_filterMap]
  constructor
  · rintro ⟨x, _, e⟩
    split at e
    · cases e
    · rename_i q
      obtain ⟨o', ho, e⟩ := Option.map_eq_some_iff.mp e
      cases e
      exact ⟨ho, fun z => q (.inl z), fun z => q (.inr z)⟩
  · rintro ⟨a, b1, c1⟩
    refine ⟨b, List.mem_range.mpr (Heap.lt_size a), ?_⟩
    rw [if_neg (by rintro (z | z); exact b1 z; exact c1 z), a]; rfl

theorem setAttr_ns {x C d : Addr} {fs : List (Str × Value)} {name : Str} {v : Value} {E : Value → Shared → Prop} {Q : Unit → Shared → Prop} (F : RF c P H env m s) (G : Gl c K) (k : Cls K C) (hx : H x = some (.inst C d)) (hd : H d = some (.ns fs))
    (hn : findIn K (.ref C) name = some none) (hz : fs.length < 100) (q : ∀ s', RF c P (upd H d (.ns (nsput name (er v) fs))) env m s' → Q () s') : wpAny (Mo c) A (setAttr (.ref x) name v) Q E s := by
  obtain ⟨sl, rs, n, Ia, hrd, hk, e⟩ := F.inst hx hd
  obtain ⟨r, hr, _⟩ := getL_ns (name := name) hk
  obtain ⟨nm, hns, hloc⟩ := F.loc
  have nd : d ≠ env.locals := by rintro rfl; rw [F.locH] at hd; cases hd
  have Fr0 : Fr {} env.locals s.heap nm := ⟨hns, fun b o e => by simp [Heap.get?] at e, Nat.zero_le _⟩
  have N0 : News {} env.locals s.heap ([] ++ (d, dictOf rs n) :: others s.heap d env.locals) := by
    intro p hp
    refine ⟨?_, ?_, by simp [Heap.get?]⟩
    · rcases List.mem_cons.mp hp with rfl | hp
      · exact hrd
      · exact (mem_others.mp hp).1
    · rcases List.mem_cons.mp hp with rfl | hp
      · exact nd
      · exact (mem_others.mp hp).2.2
  have ht : takerIn K C name = some none := by unfold takerIn; rw [hn]; rfl
  have hlen : (putL name (PyData.keyHash c.w.params name) (.str name (s.toks + 1)) v rs).length ≤ 1000 := by
    have : ∀ rs : List DictEntry, (putL name (PyData.keyHash c.w.params name) (.str name (s.toks + 1)) v rs).length ≤ rs.length + 1 := by
      intro rs
      induction rs with
      | nil => exact Nat.le_refl _
      | cons e r ih => unfold putL; split <;> simp only [List.length_cons] <;> (first | exact om6 | exact om7 ih)
    have h1 := this rs
    have h2 : rs.length = fs.length := by rw [← e, List.length_map]
    (exact om8 hz h1 h2)
  obtain ⟨p1, p2⟩ := putL_nsput (name := name) (hsh := PyData.keyHash c.w.params name) (tk := s.toks + 1) (v := v) hk
  refine set_plain (F.toRH.inK G) Ia k.sa (osa_dict (s := { s with toks := s.toks + 1 }) Fr0 N0 (F.toRH.inK G) Ia rfl k.po ht k.hd (by show (lookIn name (dictOf rs n)).isSome = true; rw [lookIn_dict, hr]; rfl)
    (fun p hp => nomatch hp) (fun p hp => (mem_others.mp hp).2.1) (putName_dict ..) rfl hlen fun h' F' N' => ?_)
  refine q _ ?_
  have hd' := (N' _ (.head _)).1
  have keep : ∀ b o, b ≠ d → b ≠ env.locals → s.heap.get? b = some o → h'.get? b = some o := fun b o h1 h2 h3 => (N' (b, o) (.tail _ (mem_others.mpr ⟨h3, h1, h2⟩))).1
  obtain ⟨hP, h100, _⟩ := F.obj d _ hd
  have nC : ∀ x k, env.cells.lookup x = some k → k ≠ d := fun x k e q => by have := (F.cel x k e).1; rw [q, hd] at this; cases this
  refine ⟨⟨F.top, fun b ob e1 => keep b ob (fun q => by rw [q, hP] at e1; cases e1) (fun q => by rw [q, F.locP] at e1; cases e1) (F.keep b ob e1), fun b ob e1 => ?_, F.gens, F.os⟩, F.locP, by rw [upd_ne _ _ (Ne.symm nd)]; exact F.locH, ?_, fun x k e1 => ?_, F.apart, F.own⟩
  · unfold upd at e1
    split at e1
    · rename_i z; cases e1; subst z
      exact ⟨hP, h100, _, hd', _, _, rfl, p2, by rw [← e]; exact p1⟩
    · rename_i z
      obtain ⟨x1, x2, rb, y, z2⟩ := F.obj b ob e1
      exact ⟨x1, x2, rb, keep b rb z (fun q => by rw [q, F.locH] at e1; cases e1) y, z2⟩
  · refine ⟨nm, F'.ns, fun y v' e1 => ?_⟩
    rcases hloc y v' e1 with z | ⟨y1, k', u, l, ⟨oc, hoc, hdc⟩, r'⟩
    · exact .inl z
    · exact .inr ⟨y1, k', u, l, ⟨oc, keep _ _ (nC y k' l) (F.cel y k' l).2.1 hoc, hdc⟩, r'⟩
  · obtain ⟨a1, b1, v', oc, hoc, hdc⟩ := F.cel x k e1
    exact ⟨by rw [upd_ne _ _ (nC x k e1)]; exact a1, b1, v', oc, keep _ _ (nC x k e1) b1 hoc, hdc⟩

inductive AttrP (K : Frag) (name : Str) (o : Value) (H1 : AH) (Q : Value → AH → Prop) : Prop
  | mk (x C d : Addr) (fs : List (Str × Value)) (v : Value) (e : o = Rf x) (k : Cls K C) (hx : H1 x = some (.inst C d)) (hd : H1 d = some (.ns fs)) (hn : findIn K (.ref C) name = some none) (hv : fs.lookup name = some v) (hb : noB v = true) (q : Q v H1) : AttrP K name o H1 Q
theorem EV.attr {value : Expr} {name : Str} {pos : Pos} {Q : Value → AH → Prop} (G : Gl c K) 
    (h : EV c A env (eval value env) H m (fun o H1 => AttrP K name o H1 Q))
    (he : eval (.Attribute value name pos) env = (do
      let o ← eval value env
      standAt pos.atName
      let r ← holding [o] (getAttr o name true)
      letTemporaryGo value o r
      pure r) := by with_unfolding_all rfl) : EV c A env (eval (.Attribute value name pos) env) H m Q := fun P s E F =>
  Attribute_any_ (wpAny_mono (h P s E F) (fun u s1 q9 => by
    obtain ⟨H1, F1, x, C, d, fs, v, e, k, hx, hd, hn, hv, hb, q⟩ := q9
    have := er_ref e; subst this
    exact getAttr_ns F1 G k hx hd hn hv hb fun u s' F' e' => ⟨H1, F', e' ▸ q⟩) fun _ _ e => e) he
end
end Mine

namespace Mine
open PySem PySem.W PySem.Calls PyProof.Rows

inductive MethP (K : Frag) (A : Around) (name : Str) (ov : Value) (H1 : AH) (R : Addr → Addr → Nat → Prop) : Prop
  | mk (x C d : Addr) (fs : List (Str × Value)) (f : Addr) (n : Nat) (e : ov = Rf x) (k : Cls K C) (hx : H1 x = some (.inst C d)) (hd : H1 d = some (.ns fs)) (hn : fs.lookup name = none) (hf : findIn K (.ref C) name = some (some (.ref f))) (hi : isFn K (.ref f) = true) (hk : keepIn K (.ref f) = true) (hA : Rm n A) (r : R x f n) : MethP K A name ov H1 R
inductive SAttrP (K : Frag) (name : Str) (ov : Value) (H2 : AH) (R : Addr → List (Str × Value) → Prop) : Prop
  | mk (x C d : Addr) (fs : List (Str × Value)) (e : ov = Rf x) (k : Cls K C) (hx : H2 x = some (.inst C d)) (hd : H2 d = some (.ns fs)) (hn : findIn K (.ref C) name = some none) (hz : fs.length < 100) (r : R d fs) : SAttrP K name ov H2 R
inductive ItemP (o i : Value) (H2 : AH) (Q : Value → AH → Prop) : Prop
  | mk (l : Addr) (xs : List Value) (k : Int) (v : Value) (e1 : o = Rf l) (e2 : i = I k) (hl : H2 l = some (.list xs)) (h0 : 0 ≤ k) (hf : k < 2 ^ 63) (hx : xs[k.toNat]? = some v) (q : Q v H2) : ItemP o i H2 Q
inductive ItemDP (o i : Value) (H2 : AH) (Q : Value → AH → Prop) : Prop
  | mk (d : Addr) (kvs : List (Int × Value)) (k : Int) (v : Value) (e1 : o = Rf d) (e2 : i = I k) (hd : H2 d = some (.idict kvs)) (hv : valueAt kvs k = some v) (q : Q v H2) : ItemDP o i H2 Q
inductive SItemP (ov iv : Value) (H3 : AH) (R : Addr → List Value → Int → Prop) : Prop
  | mk (l : Addr) (xs : List Value) (k : Int) (e1 : ov = Rf l) (e2 : iv = I k) (hl : H3 l = some (.list xs)) (h0 : 0 ≤ k) (hf : k < 2 ^ 63) (hk : k < xs.length) (r : R l xs k) : SItemP ov iv H3 R
inductive SItemDP (ov iv : Value) (H3 : AH) (R : Addr → List (Int × Value) → Int → Prop) : Prop
  | mk (d : Addr) (kvs : List (Int × Value)) (k : Int) (e1 : ov = Rf d) (e2 : iv = I k) (hd : H3 d = some (.idict kvs)) (hz : kvs.length ≤ 1000000) (r : R d kvs k) : SItemDP ov iv H3 R

section
variable {c : Cx} {P : PH} {H : AH} {env : Env} {m : Ms} {s : Shared} {A : Around} {K : Frag}

theorem RF.call {n : Nat} {f : Value} {vs us : List Value} {E : Value → Shared → Prop} {Q : Value → AH → Prop} (F : RF c P H env m s) (h : FN c n f vs H Q) (hA : Rm n A) (hus : us.map er = vs) :
    wpAny (Mo c) A (PySem.call f us) (fun u s' => ∃ H', RF c P H' env m s' ∧ Q (er u) H') E s := by
  obtain ⟨P', FH, _, _, _, _, back⟩ := F.enter
  exact wpAny_call (h A P' s _ hA FH us hus fun u s' H' F' q => ⟨H', back H' s' F', q⟩)

/-- a call of a def of the top by its name -/
theorem EV.callF {x : Str} {p pos : Pos} {e : Expr} {rest : List Expr} {f : Addr} {n : Nat} {Q : Value → AH → Prop} (G : Gl c K) (hx : nsIn K mainGlobals x = some (some (.ref f))) (hk : keepIn K (.ref f) = true) (hA : Rm n A)
    (h : EVs c A env pos (e :: rest) H m (fun vs H1 => FN c n (.ref f) vs H1 Q))
    (hkd : autoParam (env.scope.kind = .function) autoRfl) (hki : autoParam (env.kindOf x = some .globalImplicit) autoRfl) (hg : autoParam (env.globals = mainGlobals) autoRfl) (hd : autoParam ((x == ("__debug__" : Str)) = false) autoDec)
    (he : autoParam (starEach (e :: rest) env = (false, eval e env) :: starEach rest env) autoRfl) (hplain : autoParam ((backTo pos (starEach rest env)).any (·.1) = false) autoRfl) :
    EV c A env (eval (.Call (.Name x p) (e :: rest) [] pos) env) H m Q := fun P s E F => by
  obtain ⟨mg, g⟩ := G.g
  have hv := mg_of G.k g hx
  refine wpAny_Call_NameR (Name_function_global hkd hki (loadGlobal_global (hg ▸ g.keeps F.toRH.kept) hv ?_) hd)
  refine callWith_K (h₀ := s.heap) (F.toRH.inK G) hk (wpAny_mono (h P s E F) (fun us s1 ⟨H1, F1, q⟩ => ⟨F1.toRH.inK G, ?_⟩) fun _ _ e => e) he hplain
  exact F1.call q hA rfl

/-- a method of an object -/
theorem EV.meth {o : Expr} {name : Str} {apos pos : Pos} {e : Expr} {rest : List Expr} {pl : Sem Bool} {Q : Value → AH → Prop} (G : Gl c K)
    (h : EV c A env (eval o env) H m (fun ov H1 => MethP K A name ov H1 fun x f n =>
      EVs c A env pos (e :: rest) H1 m (fun vs H2 => FN c n (.ref f) (Rf x :: vs) H2 Q)))
    (he1 : autoParam (eval (.Call (.Attribute o name apos) (e :: rest) [] pos) env = (do
      let ov ← eval o env
      standAt apos.atName
      let (f, first) ← holding [ov] (getMethod ov name pl)
      callWith pos f first (backTo pos (starEach (e :: rest) env)) (backToKw pos (keywordEach [] env)))) autoRfl)
    (he : autoParam (starEach (e :: rest) env = (false, eval e env) :: starEach rest env) autoRfl) (hplain : autoParam ((backTo pos (starEach rest env)).any (·.1) = false) autoRfl) :
    EV c A env (eval (.Call (.Attribute o name apos) (e :: rest) [] pos) env) H m Q := fun P s E F => by
  refine methodCall_KW (pl := pl) (wpAny_mono (h P s E F) (fun u s1 ⟨H1, F1, x, C, d, fs, f, n, e1, k, hx, hd, hl, hf, hfn, hk, hA, q⟩ => ?_) fun _ _ e => e) he1
  have := er_ref e1; subst this
  obtain ⟨sl, rs, nn, Ia, _, hks, e2⟩ := F1.inst hx hd
  obtain ⟨r, hr, hr2⟩ := getL_ns (name := name) hks
  rw [show (rs.map nsE).lookup name = none from e2 ▸ hl] at hr2
  have hrn : r = none := by cases r <;> first | rfl | cases hr2
  subst hrn
  refine method_fn (F1.toRH.inK G) Ia k.ga k.gt hf (beq_iff_eq.mp hfn) (by show (lookIn name (dictOf rs nn)).map _ = _; rw [lookIn_dict, hr]; rfl) ?_
  refine callWith_K (h₀ := s1.heap) (F1.toRH.inK G) hk (wpAny_mono (q P s1 E F1) (fun us s2 ⟨H2, F2, q2⟩ => ⟨F2.toRH.inK G, ?_⟩) fun _ _ e => e) he hplain
  exact F2.call (us := .ref x :: us) q2 hA rfl
theorem EV.meth0 {o : Expr} {name : Str} {apos pos : Pos} {pl : Sem Bool} {Q : Value → AH → Prop} (G : Gl c K)
    (h : EV c A env (eval o env) H m (fun ov H1 => MethP K A name ov H1 fun x f n => FN c n (.ref f) [Rf x] H1 Q))
    (he1 : autoParam (eval (.Call (.Attribute o name apos) [] [] pos) env = (do
      let ov ← eval o env
      standAt apos.atName
      let (f, first) ← holding [ov] (getMethod ov name pl)
      callWith pos f first (backTo pos (starEach [] env)) (backToKw pos (keywordEach [] env)))) autoRfl) :
    EV c A env (eval (.Call (.Attribute o name apos) [] [] pos) env) H m Q := fun P s E F => by
  refine methodCall_KW (pl := pl) (wpAny_mono (h P s E F) (fun u s1 ⟨H1, F1, x, C, d, fs, f, n, e1, k, hx, hd, hl, hf, hfn, hk, hA, q⟩ => ?_) fun _ _ e => e) he1
  have := er_ref e1; subst this
  obtain ⟨sl, rs, nn, Ia, _, hks, e2⟩ := F1.inst hx hd
  obtain ⟨r, hr, hr2⟩ := getL_ns (name := name) hks
  rw [show (rs.map nsE).lookup name = none from e2 ▸ hl] at hr2
  have hrn : r = none := by cases r <;> first | rfl | cases hr2
  subst hrn
  refine method_fn (F1.toRH.inK G) Ia k.ga k.gt hf (beq_iff_eq.mp hfn) (by show (lookIn name (dictOf rs nn)).map _ = _; rw [lookIn_dict, hr]; rfl) ?_
  refine callWith_K0 (F1.toRH.inK G) hk ?_
  exact F1.call (us := [.ref x]) q hA rfl

/-! binding -/
noncomputable def stOk (env : Env) (x : Str) : Bool := env.scope.kind == .function && (env.kindOf x == some .local || (env.kindOf x == some .cell && env.func.isSome && (env.cells.lookup x).isSome))

theorem RF.bind {x : Str} {u : Value} {E : Value → Shared → Prop} {Q : Unit → Shared → Prop} (F : RF c P H env m s) (st : stOk env x = true) (q : ∀ s', RF c P H env (mset m x (er u)) s' → Q () s') :
    wpAny (Mo c) A (storeName env x u) Q E s := by
  unfold stOk at st
  simp only [Bool.and_eq_true, Bool.or_eq_true, beq_iff_eq] at st
  obtain ⟨hk, hl | ⟨⟨hl, hf⟩, hc⟩⟩ := st
  · obtain ⟨nm, hn, _⟩ := F.loc
    exact wpAny_storeName_local hl hn (fun h' hn' hs' => q _ (F.store hl hn hn' hs')) (by rw [hk]; rfl)
  · obtain ⟨k, hk'⟩ := Option.isSome_iff_exists.mp hc
    obtain ⟨_, _, v, hv⟩ := F.cel x k hk'
    exact wpAny_storeName_cell hk hl hk' hv fun h' hn' hs' => q _ (F.storeC hl hf hk' hn' hs')

noncomputable def AS (c : Cx) (A : Around) (env : Env) (t : Value → Sem Unit) (v : Value) (H : AH) (m : Ms) (Q : AH → Ms → Prop) : Prop :=
  ∀ P s E u, RF c P H env m s → er u = v → wpAny (Mo c) A (t u) (fun _ s' => ∃ H' m', RF c P H' env m' s' ∧ Q H' m') E s
theorem AS.name {x : Str} {pos : Pos} {v : Value} {Q : AH → Ms → Prop} (q : Q H (mset m x v)) (st : autoParam (stOk env x = true) autoRfl) : AS c A env (assign (.Name x pos) env) v H m Q :=
  fun P s E u F e => wpAny_assign_Name (F.bind st fun s' F' => ⟨H, _, e ▸ F', q⟩)

/-! statements -/
theorem EX.nil {Q : Flow → AH → Ms → Prop} (q : Q .next H m) : EX c A env (execs [] env) H m Q := fun P s E F => wpAny_execs_nil ⟨H, m, F, q⟩
theorem EX.cons {st : Stmt} {rest : List Stmt} {Q : Flow → AH → Ms → Prop}
    (h : EX c A env (exec st env) H m (fun f H1 m1 => match f with | .next => EX c A env (execs rest env) H1 m1 Q | f => Q f H1 m1)) : EX c A env (execs (st :: rest) env) H m Q :=
  fun P s E F => wpAny_execs_cons (wpAny_mono (h P s E F) (fun f s1 q9 => by
    obtain ⟨H1, m1, F1, q⟩ := q9
    cases f with
    | next => exact q P s1 E F1
    | brk => exact ⟨H1, m1, F1, q⟩
    | cont => exact ⟨H1, m1, F1, q⟩
    | ret v => exact ⟨H1, m1, F1, q⟩) fun _ _ e => e)
theorem EX.set {x : Str} {px pos : Pos} {e : Expr} {Q : Flow → AH → Ms → Prop} (h : EV c A env (eval e env) H m (fun v H1 => Q .next H1 (mset m x v))) (st : autoParam (stOk env x = true) autoRfl)
    (hs : autoParam (swapsWith e (some (.Name x px)) pos.line env = pure false) autoRfl) : EX c A env (exec (.Assign [.Name x px] e pos) env) H m Q :=
  fun P s E F => wpAny_Assign_Name (wpAny_mono (h P s E F) (fun u s1 ⟨H1, F1, q⟩ => F1.bind st fun s' F' => ⟨H1, _, F', q⟩) fun _ _ e => e) hs
theorem EX.ret {e : Expr} {pos : Pos} {Q : Flow → AH → Ms → Prop} (h : EV c A env (eval e env) H m (fun v H1 => Q (.ret v) H1 m)) : EX c A env (exec (.Return (some e) pos) env) H m Q :=
  fun P s E F => wpAny_Return_some (wpAny_mono (h P s E F) (fun u s1 ⟨H1, F1, q⟩ => ⟨H1, m, F1, q⟩) fun _ _ e => e)
theorem EX.ite {test : Expr} {body orelse : List Stmt} {pos : Pos} {Q : Flow → AH → Ms → Prop}
    (h : IT c A env test H m (fun t H1 => if t then EX c A env (execs body env) H1 m Q else EX c A env (execs orelse env) H1 m Q)) : EX c A env (exec (.If test body orelse pos) env) H m Q :=
  fun P s E F => wpAny_If (wpAny_mono (h P s E _ rfl F) (fun t s1 q9 => by
    obtain ⟨H1, F1, q⟩ := q9
    cases t with
    | false => exact q P s1 E F1
    | true => exact q P s1 E F1) fun _ _ e => e)
theorem EX.expr {e : Expr} {pos : Pos} {Q : Flow → AH → Ms → Prop} (h : EV c A env (eval e env) H m (fun v H1 => (∀ a, v ≠ Rf a) ∧ Q .next H1 m))
    (hi : autoParam (interactive env = false) autoRfl) (hs : autoParam (swapsWith e none pos.line env = pure false) autoRfl) : EX c A env (exec (.Expr e pos) env) H m Q :=
  fun P s E F => wpAny_Expr (wpAny_mono (h P s E F) (fun u s1 q9 => by
    obtain ⟨H1, F1, n, q⟩ := q9
    cases u with
    | ref a => exact (n a rfl).elim
    | _ => exact ⟨H1, m, F1, q⟩) fun _ _ e => e) hi hs
theorem EX.setattr {o value : Expr} {name : Str} {tpos pos : Pos} {Q : Flow → AH → Ms → Prop} (G : Gl c K)
    (h : EV c A env (eval value env) H m (fun v H1 => EV c A env (eval o env) H1 m (fun ov H2 => SAttrP K name ov H2 fun d fs => Q .next (upd H2 d (.ns (nsput name v fs))) m)))
    (hs : autoParam (swapsWith value (some (.Attribute o name tpos)) pos.line env = pure false) autoRfl) : EX c A env (exec (.Assign [.Attribute o name tpos] value pos) env) H m Q :=
  fun P s E F => plainObj_wpAny_Assign_Attribute (wpAny_mono (h P s E F) (fun u s1 ⟨H1, F1, h1⟩ => wpAny_mono (h1 P s1 E F1) (fun ov s2 q9 => by
    obtain ⟨H2, F2, x, C, d, fs, e1, k, hx, hd, hn, hz, q⟩ := q9
    have := er_ref e1; subst this
    exact setAttr_ns F2 G k hx hd hn hz fun s' F' => ⟨_, m, F', q⟩) fun _ _ e => e) fun _ _ e => e) hs
theorem EX.augattr {o value : Expr} {name : Str} {tpos pos : Pos} {Q : Flow → AH → Ms → Prop} (G : Gl c K)
    (h : EV c A env (eval o env) H m (fun ov H1 => ∃ x C d fs i, ov = Rf x ∧ Cls K C ∧ H1 x = some (.inst C d) ∧ H1 d = some (.ns fs) ∧ findIn K (.ref C) name = some none ∧ fs.lookup name = some (I i) ∧ fs.length < 100 ∧
      EV c A env (eval value env) H1 m (fun v H2 => ∃ j, v = I j ∧ H2 x = some (.inst C d) ∧ H2 d = some (.ns fs) ∧ Q .next (upd H2 d (.ns (nsput name (I (i + j)) fs))) m))) :
    EX c A env (exec (.AugAssign (.Attribute o name tpos) .Add value pos) env) H m Q :=
  fun P s E F => wpAny_AugAssign_AttributeAny (wpAny_mono (h P s E F) (fun ov s1 q9 => by
    obtain ⟨H1, F1, x, C, d, fs, i, e1, k, hx, hd, hn, hv, hz, h1⟩ := q9
    have := er_ref e1; subst this
    refine getAttr_ns F1 G k hx hd hn hv rfl fun u s2 F2 e2 => ?_
    obtain ⟨t, rfl⟩ := er_int e2
    refine wpAny_mono (h1 P s2 E F2) (fun v s3 ⟨H3, F3, j, e3, hx3, hd3, q⟩ => ?_) fun _ _ e => e
    obtain ⟨t', rfl⟩ := er_int e3
    refine wpAny_iadd_int ?_
    exact setAttr_ns F3.tok G k hx3 hd3 hn hz fun s' F' => ⟨_, m, F', q⟩) fun _ _ e => e)

/-! lists and dicts -/
theorem RF.isList {l : Addr} {xs : List Value} (F : RF c P H env m s) (h : H l = some (.list xs)) : ∃ (vs : Array Value) (n : Nat), s.heap.get? l = some { cls := .type "list", data := .seq vs n } ∧ vs.toList.map er = xs := by
  obtain ⟨_, _, ro, ho, vs, n, rfl, e⟩ := F.obj _ _ h; exact ⟨vs, n, ho, e⟩
theorem RF.isTup {l : Addr} {xs : List Value} (F : RF c P H env m s) (h : H l = some (.tup xs)) : ∃ (vs : Array Value), s.heap.IsTuple l vs ∧ vs.toList.map er = xs := by
  obtain ⟨_, _, ro, ho, hc, vs, n, hd, e⟩ := F.obj _ _ h; exact ⟨vs, ⟨ro, ho, hc, n, hd⟩, e⟩
theorem RF.isIDict {d : Addr} {kvs : List (Int × Value)} (F : RF c P H env m s) (h : H d = some (.idict kvs)) : ∃ kvs', s.heap.DictOf (intKind c.prog c.w) d kvs' ∧ kvs'.map (fun p => (p.1, er p.2)) = kvs := by
  obtain ⟨_, _, ro, ho, kvs', hd, e⟩ := F.obj _ _ h; exact ⟨kvs', Heap.dictOf_iff.mpr ⟨ro, ho, hd⟩, e⟩
theorem RF.above {a : Addr} {o : AObj} (F : RF c P H env m s) (h : H a = some o) : (a == sysModules) = false := by
  have := (F.obj _ _ h).2.1
  exact beq_eq_false_iff_ne.mpr (fun e => by rw [e] at this; exact absurd this (by decide))
theorem ofmap {vs : Array Value} {xs : List Value} {k : Nat} {v : Value} (e : vs.toList.map er = xs) (h : xs[k]? = some v) : ∃ u, vs[k]? = some u ∧ er u = v := by
  rw [← e, List.getElem?_map] at h
  obtain ⟨u, hu, e⟩ := Option.map_eq_some_iff.mp h
  exact ⟨u, by rw [← Array.getElem?_toList]; exact hu, e⟩

theorem EV.item {value slice : Expr} {pos : Pos} {Q : Value → AH → Prop}
    (h : EV c A env (eval value env) H m (fun o H1 => EV c A env (eval slice env) H1 m (fun i H2 => ItemP o i H2 Q)))
    (hs : autoParam (∀ o i, subscripted slice false o i = operate [o, i] (getItem o i)) autoRfl2) : EV c A env (eval (.Subscript value slice pos) env) H m Q :=
  fun P s E F => Subscript_ (wpAny_mono (h P s E F) (fun o s1 ⟨H1, F1, h1⟩ => wpAny_mono (h1 P s1 E F1) (fun i s2 q9 => by
    obtain ⟨H2, F2, l, xs, k, v, e1, e2, hl, h0, hf, hx, q⟩ := q9
    have := er_ref e1; subst this
    obtain ⟨t, rfl⟩ := er_int e2
    obtain ⟨vs, n, ho, e⟩ := F2.isList hl
    obtain ⟨u, hu, eu⟩ := ofmap e hx
    have hL : s2.heap.IsList l vs := ⟨_, ho, rfl, n, rfl⟩
    exact tail_any hL.typeIs slot_list_getitem.lookup (wpAny_getItem_list hL h0 hf hu ⟨H2, F2, eu ▸ q⟩) (hs _ _)) fun _ _ e => e) fun _ _ e => e)
theorem valueAt_map {kvs : List (Int × Value)} {k : Int} : valueAt (kvs.map fun p => (p.1, er p.2)) k = (valueAt kvs k).map er := by
  unfold valueAt
  induction kvs with
  | nil => rfl
  | cons p r ih =>
    rw [List.map_cons, List.find?_cons, List.find?_cons]
    by_cases q : p.1 = k
    · simp [q]
    · simp only [decide_eq_false q]; exact ih
theorem isInt_self (k : Int) (t : Tok) : (intKind c.prog c.w).is k (.int k t) = true := by show Value.isInt k (.int k t) = true; simp [Value.isInt]
theorem EV.itemD {value slice : Expr} {pos : Pos} {Q : Value → AH → Prop}
    (h : EV c A env (eval value env) H m (fun o H1 => EV c A env (eval slice env) H1 m (fun i H2 => ItemDP o i H2 Q)))
    (hs : autoParam (∀ o i, subscripted slice false o i = operate [o, i] (getItem o i)) autoRfl2) : EV c A env (eval (.Subscript value slice pos) env) H m Q :=
  fun P s E F => Subscript_ (wpAny_mono (h P s E F) (fun o s1 ⟨H1, F1, h1⟩ => wpAny_mono (h1 P s1 E F1) (fun i s2 q9 => by
    obtain ⟨H2, F2, d, kvs, k, v, e1, e2, hd, hv, q⟩ := q9
    have := er_ref e1; subst this
    obtain ⟨t, rfl⟩ := er_int e2
    obtain ⟨kvs', hD, e⟩ := F2.isIDict hd
    rw [← e, valueAt_map] at hv
    obtain ⟨u, hu, eu⟩ := Option.map_eq_some_iff.mp hv
    exact tail_any hD.typeIs slot_dict_getitem.lookup (wpAny_getItem_of (isInt_self k t) hD.mapOf hu ⟨H2, F2.tok, eu ▸ q⟩) (hs _ _)) fun _ _ e => e) fun _ _ e => e)

theorem EX.setitem {o i value : Expr} {tpos pos : Pos} {Q : Flow → AH → Ms → Prop}
    (h : EV c A env (eval value env) H m (fun v H1 => EV c A env (eval o env) H1 m (fun ov H2 => EV c A env (eval i env) H2 m (fun iv H3 => SItemP ov iv H3 fun l xs k => Q .next (upd H3 l (.list (xs.set k.toNat v))) m))))
    (hs : autoParam (swapsWith value (some (.Subscript o i tpos)) pos.line env = pure false) autoRfl) : EX c A env (exec (.Assign [.Subscript o i tpos] value pos) env) H m Q :=
  fun P s E F => wpAny_Assign_Subscript (wpAny_mono (h P s E F) (fun u s1 ⟨H1, F1, h1⟩ => wpAny_mono (h1 P s1 E F1) (fun ov s2 ⟨H2, F2, h2⟩ => wpAny_mono (h2 P s2 E F2) (fun iv s3 q9 => by
    obtain ⟨H3, F3, l, xs, k, e1, e2, hl, h0, hf, hk, q⟩ := q9
    have := er_ref e1; subst this
    obtain ⟨t, rfl⟩ := er_int e2
    obtain ⟨vs, n, ho, e⟩ := F3.isList hl
    have hsz : vs.size = xs.length := by rw [← e]; simp
    refine ki_setAt ho h0 hf (by rw [hsz]; exact hk) ⟨_, m, F3.change hl (Heap.SameBut.update ..) (Heap.get?_update_self _ ho ?_) ?_, q⟩
    · simp [Obj.mapSeq, Obj.isFreed]
    · refine ⟨vs.setIfInBounds k.toNat u, n, ?_, ?_⟩
      · simp [Obj.mapSeq]
      · rw [Array.toList_setIfInBounds, List.map_set, e]) fun _ _ e => e) fun _ _ e => e) fun _ _ e => e) hs
theorem EX.setitemD {o i value : Expr} {tpos pos : Pos} {Q : Flow → AH → Ms → Prop}
    (h : EV c A env (eval value env) H m (fun v H1 => EV c A env (eval o env) H1 m (fun ov H2 => EV c A env (eval i env) H2 m (fun iv H3 => SItemDP ov iv H3 fun d kvs k => Q .next (upd H3 d (.idict (stored kvs k v))) m))))
    (hs : autoParam (swapsWith value (some (.Subscript o i tpos)) pos.line env = pure false) autoRfl) : EX c A env (exec (.Assign [.Subscript o i tpos] value pos) env) H m Q :=
  fun P s E F => wpAny_Assign_Subscript (wpAny_mono (h P s E F) (fun u s1 ⟨H1, F1, h1⟩ => wpAny_mono (h1 P s1 E F1) (fun ov s2 ⟨H2, F2, h2⟩ => wpAny_mono (h2 P s2 E F2) (fun iv s3 q9 => by
    obtain ⟨H3, F3, d, kvs, k, e1, e2, hd, hz, q⟩ := q9
    have := er_ref e1; subst this
    obtain ⟨t, rfl⟩ := er_int e2
    obtain ⟨kvs', hD, e⟩ := F3.isIDict hd
    have hlen : kvs'.length = kvs.length := by rw [← e]; simp
    refine wpAny_setItem_pairs (isInt_self k t) hD (fun h' hD' hs' => ?_) (by rw [hlen, sizeLine_eq]; (exact om9 hz hlen))
    obtain ⟨ro, hro, hdo⟩ := Heap.dictOf_iff.mp hD'
    have hm : Mt c ro (.idict (stored kvs k (er u))) := by
      refine ⟨_, hdo, ?_⟩
      rw [← e]
      unfold stored
      rw [List.any_map]
      by_cases z : kvs'.any (fun kv => decide (kv.1 = k)) = true
      · rw [if_pos z, if_pos (by exact z), List.map_map, List.map_map]
        refine List.map_congr_left fun p _ => ?_
        by_cases w : p.1 = k <;> simp [w]
      · rw [if_neg z, if_neg (by exact z)]; simp
    exact ⟨_, m, F3.change hd hs' hro hm, q⟩) fun _ _ e => e) fun _ _ e => e) fun _ _ e => e) hs
end
end Mine

namespace Mine
open PySem PySem.W PySem.Calls PyProof.Rows

noncomputable def bindA : List (Str × Value) → Ms → Ms
  | [], m => m
  | (n, v) :: r, m => bindA r (mset m n v)
theorem bindA_ok {kindOf : Str → Option NameKind} : ∀ {binds : List (Str × Value)} {m ml mc : Ms}, (∀ x ∈ binds, kindOf x.1 = some .local ∨ kindOf x.1 = some .cell) →
    (∀ x v, m x = some v → (kindOf x = some .local ∧ ∃ u, ml x = some u ∧ er u = v) ∨ (kindOf x = some .cell ∧ ∃ u, mc x = some u ∧ er u = v)) →
    ∀ x v, bindA (binds.map fun p => (p.1, er p.2)) m x = some v → (kindOf x = some .local ∧ ∃ u, bindL kindOf binds ml x = some u ∧ er u = v) ∨ (kindOf x = some .cell ∧ ∃ u, bindC kindOf binds mc x = some u ∧ er u = v)
  | [], _, _, _, _, h => h
  | (n, w) :: r, m, ml, mc, hk, h => by
    intro x v e
    unfold bindL bindC
    refine bindA_ok (binds := r) (m := mset m n (er w)) (fun y hy => hk y (.tail _ hy)) (fun y v' e' => ?_) x v e
    unfold mset at e'
    rcases hk _ (.head _) with q | q
    · have q : kindOf n = some .local := q
      rw [if_pos q, if_pos q]
      split at e'
      · rename_i z; subst z; cases e'; exact .inl ⟨q, w, if_pos rfl, rfl⟩
      · rename_i z
        rcases h y v' e' with ⟨a, u, b, d⟩ | a
        · exact .inl ⟨a, u, by rw [if_neg z]; exact b, d⟩
        · exact .inr a
    · have q : kindOf n = some .cell := q
      have q' : ¬ kindOf n = some .local := by rw [q]; decide
      rw [if_neg q', if_neg q']
      split at e'
      · rename_i z; subst z; cases e'; exact .inr ⟨q, w, if_pos rfl, rfl⟩
      · rename_i z
        rcases h y v' e' with a | ⟨a, u, b, d⟩
        · exact .inl a
        · exact .inr ⟨a, u, by rw [if_neg z]; exact b, d⟩
theorem bindA_rev : ∀ {binds : List (Str × Value)} {m : Ms} {x : Str} {v : Value}, bindA (binds.map fun p => (p.1, er p.2)) m x = some v → (∃ u, binds.reverse.lookup x = some u ∧ er u = v) ∨ (binds.reverse.lookup x = none ∧ m x = some v)
  | [], m, x, v, e => .inr ⟨rfl, e⟩
  | (n, w) :: r, m, x, v, e => by
    rw [List.reverse_cons, List.lookup_append]
    rcases bindA_rev (binds := r) (m := mset m n (er w)) e with ⟨u, a, b⟩ | ⟨a, b⟩
    · exact .inl ⟨u, by rw [a]; rfl, b⟩
    · rw [a]
      unfold mset at b
      split at b
      · rename_i z; subst z; cases b; exact .inl ⟨w, by simp, rfl⟩
      · rename_i z; exact .inr ⟨by rw [List.lookup_cons, show (x == n) = false from beq_eq_false_iff_ne.mpr z]; rfl, b⟩

noncomputable def retv : Flow → Value
  | .ret v => v
  | _ => .none

section
variable {c : Cx} {P : PH} {H : AH} {s : Shared} {K : Frag}

theorem erF_retv (f : Flow) : retv (erF f) = er (match f with | .ret v => v | _ => .none) := by cases f <;> rfl

/-- the body of a def, its names possibly cells -/
theorem FN.def {f : Addr} {oc : Value} {od : Option Addr} {osl : Array (Option Value)} {name qual : Str} {params : Arguments} {body : List Stmt} {scope : Scope} {dV kV doc pm cdv ct : Value} {an : Option Addr}
    {names : List Str} {args : List Value} {Q : Value → AH → Prop} {n : Nat} (G : Gl c K)
    (ho : K.lookup f = some ⟨oc, od, .func (fnOf name qual params body scope dV kV doc pm an cdv ct), osl⟩) (hcd : codeIn K cdv qual = true)
    (hlen : names.length = args.length)
    (hbind : ∀ as : List Value, as.length = args.length → bindArgs (fnOf name qual params body scope dV kV doc pm an cdv ct) ⟨as, []⟩ = pure (names.zip as))
    (hkind : ∀ L, ∀ x ∈ names, stOk (callEnvC (fnOf name qual params body scope dV kV doc pm an cdv ct) L f) x = true)
    (h : ∀ A L, Rm n A → EX c A (callEnvC (fnOf name qual params body scope dV kV doc pm an cdv ct) L f) (execs body (callEnvC (fnOf name qual params body scope dV kV doc pm an cdv ct) L f)) H (bindA (names.zip args) fun _ => none) (fun fl H' _ => Q (retv fl) H'))
    (hco : autoParam (scope.isCoroutine = false) autoRfl) (hgen : autoParam (scope.isGenerator = false) autoRfl) (hk : autoParam (scope.kind = .function) autoRfl) :
    FN c (n + 1) (.ref f) args H Q := by
  intro A P s R hR F as has k
  have hl : as.length = args.length := by rw [← has, List.length_map]
  have X := F.inK G
  generalize hfd : fnOf name qual params body scope dV kV doc pm an cdv ct = fd at *
  have e1 : fd.body = .stmts body := by rw [← hfd]
  have e2 : fd.closure = [] := by rw [← hfd]
  have e3 : fd.scope = scope := by rw [← hfd]
  have e4 : fd.code = cdv := by rw [← hfd]
  have e5 : fd.qualname = qual := by rw [← hfd]
  have e6 : fd.globals = mainGlobals := by rw [← hfd]
  have hzip : (names.zip as).map (fun p => (p.1, er p.2)) = names.zip args := by
    rw [← has]
    have : ∀ (ns : List Str) (l : List Value), (ns.zip l).map (fun p => (p.1, er p.2)) = ns.zip (l.map er) := by
      intro ns
      induction ns with
      | nil => intro l; rfl
      | cons n r ih => intro l; cases l with
        | nil => rfl
        | cons a l => simp [ih]
    exact this _ _
  have hk1 : ∀ x ∈ names.zip as, (callEnvC fd s.heap.objs.size f).kindOf x.1 = some .local ∨ ((callEnvC fd s.heap.objs.size f).kindOf x.1 = some .cell ∧ ((callEnvC fd s.heap.objs.size f).cells.lookup x.1).isSome = true) := by
    intro x hx
    have := hkind s.heap.objs.size x.1 (List.of_mem_zip hx).1
    unfold stOk at this
    simp only [Bool.and_eq_true, Bool.or_eq_true, beq_iff_eq] at this
    obtain ⟨_, q | ⟨⟨q, _⟩, q2⟩⟩ := this
    · exact .inl q
    · exact .inr ⟨q, q2⟩
  refine codeAny_call_cells (fd := fd) (body := body) (by have := hR.2.1; show A.depth < 1000; (exact om10 this)) (X _ _ ho) rfl ((G.lim.keeps F.kept)) (by rw [e4, e5]; exact codeRec_of X hcd) e1 (hbind as hl) e2 hk1 (fun s₁ x => ?_)
    (by rw [e3]; exact hco) (by rw [e3]; exact hgen) (by rw [e3]; exact hk)
  have hA' : Rm n (A.deeper (callEnvC fd s.heap.objs.size f)) := ⟨hR.1, by have := hR.2.1; show A.depth + 1 + 3 * n ≤ 900; (exact om11 this), by have := hR.2.2; show A.units + 3 + 30 * n ≤ 9000; (exact om12 this)⟩
  have eL : (callEnvC fd s.heap.objs.size f).locals = s.heap.objs.size := rfl
  obtain ⟨⟨h₁, tk, hs₁⟩, hns, hkeep, hfr⟩ := x.toInCall
  have FF : RF c P H (callEnvC fd s.heap.objs.size f) (bindA (names.zip args) fun _ => none) s₁ := by
    have notin : ∀ b, s.heap.objs.size ≤ b → P b = none ∧ H b = none := fun b hb => by
      constructor
      · cases q : P b with
        | none => rfl
        | some o => exact absurd (Heap.lt_size (F.keep _ _ q)) (Nat.not_lt.mpr hb)
      · cases q : H b with
        | none => rfl
        | some o => obtain ⟨_, _, ro, h', _⟩ := F.obj _ _ q; exact absurd (Heap.lt_size h') (Nat.not_lt.mpr hb)
    have above : ∀ y k, (callEnvC fd s.heap.objs.size f).cells.lookup y = some k → s.heap.objs.size < k := fun y k e => x.above y k (mem_of_lookup e)
    refine ⟨⟨F.top, fun b o e => hkeep _ _ (F.keep b o e), fun a o e => let ⟨x1, x2, ro, y, z⟩ := F.obj a o e; ⟨x1, x2, ro, hkeep _ _ y, z⟩, by rw [hs₁]; exact F.gens, by rw [hs₁]; exact F.os⟩, (notin _ (Nat.le_refl _)).1, (notin _ (Nat.le_refl _)).2, ?_, fun y k e => ?_, fun y z k e1 e2 => ?_, fun _ y k e => (notin _ (Nat.le_of_lt (above y k e))).1⟩
    · refine ⟨_, hns, fun y v e => ?_⟩
      rw [← hzip] at e
      rcases bindA_ok (kindOf := (callEnvC fd s.heap.objs.size f).kindOf) (ml := fun _ => none) (mc := fun _ => none) (fun z hz => (hk1 z hz).imp id (·.1)) (fun _ _ e => by cases e) y v e with ⟨a, u, b, d⟩ | ⟨a, u, b, d⟩
      · exact .inl ⟨a, u, b, d⟩
      · refine .inr ⟨a, ?_⟩
        -- the name is one of the bound ones, so it has a cell
        have hc : ((callEnvC fd s.heap.objs.size f).cells.lookup y).isSome = true := by
          have : ∀ (l : List (Str × Value)) (mc : Ms), (∀ z ∈ l, (callEnvC fd s.heap.objs.size f).kindOf z.1 = some .local ∨ ((callEnvC fd s.heap.objs.size f).kindOf z.1 = some .cell ∧ ((callEnvC fd s.heap.objs.size f).cells.lookup z.1).isSome = true)) →
              (∀ y u, mc y = some u → ((callEnvC fd s.heap.objs.size f).cells.lookup y).isSome = true) → ∀ y u, bindC (callEnvC fd s.heap.objs.size f).kindOf l mc y = some u → ((callEnvC fd s.heap.objs.size f).cells.lookup y).isSome = true := by
            intro l
            induction l with
            | nil => intro mc _ h; exact h
            | cons p r ih =>
              intro mc h1 h2 y u e
              unfold bindC at e
              refine ih _ (fun z hz => h1 z (.tail _ hz)) ?_ y u e
              intro y' u' e'
              rcases h1 p (.head _) with q | ⟨q, q2⟩
              · have q : (callEnvC fd s.heap.objs.size f).kindOf p.1 = some .local := q
                rw [if_pos q] at e'; exact h2 y' u' e'
              · have q3 : ¬ (callEnvC fd s.heap.objs.size f).kindOf p.1 = some .local := by rw [q]; decide
                rw [if_neg q3] at e'
                split at e'
                · rename_i z; rw [z]; exact q2
                · exact h2 y' u' e'
          exact this _ _ hk1 (fun _ _ e => by cases e) y u b
        obtain ⟨k, hk'⟩ := Option.isSome_iff_exists.mp hc
        exact ⟨k, u, hk', b ▸ x.cell y k hk', d⟩
    · exact ⟨(notin _ (Nat.le_of_lt (above y k e))).2, Nat.ne_of_gt (above y k e), _, x.cell y k e⟩
    · exact name_of_addr x.apart (mem_of_lookup e1) (mem_of_lookup e2)
  refine wpAny_mono (h _ s.heap.objs.size hA' P s₁ (fun e s' => wpAny (Mo c) (A.deeper (callEnvC fd s.heap.objs.size f)) (leaving (callEnvC fd s.heap.objs.size f) e) (fun _ s'' => R (.error e) s'') (fun e' s'' => R (.error e') s'') s') FF) (fun fl s2 ⟨H', m', F', q⟩ => ?_) fun _ _ e => e
  refine k _ s2 H' F'.toRH ?_
  have e9 := erF_retv fl
  cases fl <;> exact q
end
end Mine

namespace Mine
open PySem PySem.W PySem.Calls PyProof.Rows

inductive Src where
  | list (l : Addr)
  | tup (t : Addr)
  | rng (a : Int) (n : Nat)
noncomputable def Src.on (H : AH) : Src → List Value → Prop
  | .list l, xs => H l = some (.list xs)
  | .tup t, xs => H t = some (.tup xs)
  | .rng a n, xs => xs = (List.range n).map fun i : Nat => I (a + (i : Int))
noncomputable def Src.at (h : Heap) (it : Addr) : Src → Nat → Prop
  | .list l, i => h.IsListIter it l i
  | .tup t, i => h.IsTupleIter it t i
  | .rng a n, i => IsRangeIter h it (a + (i : Nat)) ((n : Int) - (i : Nat)) 1
theorem Src.at.some {h : Heap} {it : Addr} {src : Src} {i : Nat} (x : src.at h it i) : ∃ o, h.get? it = some o := by
  cases src with
  | list l => obtain ⟨o, ho, _⟩ := x; exact ⟨o, ho⟩
  | tup l => obtain ⟨o, ho, _⟩ := x; exact ⟨o, ho⟩
  | rng a n => exact ⟨_, x⟩
theorem Src.at.keep {h h' : Heap} {it : Addr} {src : Src} {i : Nat} {o : Obj} (x : src.at h it i) (e : h.get? it = Option.some o) (e' : h'.get? it = Option.some o) : src.at h' it i := by
  cases src with
  | list l => obtain ⟨o', ho, r⟩ := x; rw [e] at ho; cases ho; exact ⟨o, e', r⟩
  | tup l => obtain ⟨o', ho, r⟩ := x; rw [e] at ho; cases ho; exact ⟨o, e', r⟩
  | rng a n => have x' : h.get? it = _ := x; rw [e] at x'; cases x'; exact e'

section
variable {c : Cx} {P : PH} {H : AH} {env : Env} {m : Ms} {s : Shared} {A : Around} {K : Frag}

theorem RF.but {it : Addr} {h' : Heap} {tk : Nat} (F : RF c P H env m s) (hP : P it = none) (hH : H it = none) (hL : it ≠ env.locals) (hC : ∀ x, env.cells.lookup x ≠ some it) (k : Heap.ExtBut it s.heap h') :
    RF c P H env m { s with heap := h', toks := tk } := by
  have k' : ∀ b o, b ≠ it → s.heap.get? b = some o → h'.get? b = some o := k
  refine ⟨⟨F.top, fun b o e => k' b o (fun q => by rw [q, hP] at e; cases e) (F.keep b o e), fun a o e => ?_, F.gens, F.os⟩, F.locP, F.locH, ?_, fun x kk e => ?_, F.apart, F.own⟩
  · obtain ⟨x, x2, ro, y, z⟩ := F.obj a o e
    exact ⟨x, x2, ro, k' _ _ (fun q => by rw [q, hH] at e; cases e) y, z⟩
  · obtain ⟨nm, a, b⟩ := F.loc
    refine ⟨nm, a.extBut k (Ne.symm hL), fun x v e => ?_⟩
    rcases b x v e with z | ⟨q, kk, u, l, ⟨o, ho, hd⟩, r⟩
    · exact .inl z
    · exact .inr ⟨q, kk, u, l, ⟨o, k' _ _ (fun z => hC x (z ▸ l)) ho, hd⟩, r⟩
  · obtain ⟨a, b, v, o, ho, hd⟩ := F.cel x kk e
    exact ⟨a, b, v, o, k' _ _ (fun z => hC x (z ▸ e)) ho, hd⟩

theorem src_item {src : Src} {xs : List Value} {it : Addr} {i : Nat} {v : Value} {E : Value → Shared → Prop} {Q : Option Value → Shared → Prop} (F : RF c P H env m s) (on : src.on H xs) (x : src.at s.heap it i) (hv : xs[i]? = some v)
    (q : ∀ u h' tk, er u = v → src.at h' it (i + 1) → Heap.SameBut it s.heap h' → Q (some u) { s with heap := h', toks := tk }) : wpAny (Mo c) A (pyNext (.ref it)) Q E s := by
  cases src with
  | list l =>
    obtain ⟨vs, n, ho, e⟩ := F.isList on
    obtain ⟨u, hu, eu⟩ := ofmap e hv
    exact wpAny_pyNext_list_item x ⟨_, ho, rfl, n, rfl⟩ hu fun h' hit hs => q u h' s.toks eu hit hs
  | tup l =>
    obtain ⟨vs, ht, e⟩ := F.isTup on
    obtain ⟨u, hu, eu⟩ := ofmap e hv
    exact wpAny_pyNext_tuple_item x ht hu fun h' hit hs => q u h' s.toks eu hit hs
  | rng a n =>
    have on : xs = _ := on
    rw [on, List.getElem?_map] at hv
    obtain ⟨j, hj, rfl⟩ := Option.map_eq_some_iff.mp hv
    have hj' := List.getElem?_eq_some_iff.mp hj
    obtain ⟨hlt, hij⟩ := hj'
    rw [List.getElem_range] at hij
    subst hij
    rw [List.length_range] at hlt
    refine wpAny_pyNext_range_item x (by (exact om13 hlt)) fun h' hit hs => q _ h' _ rfl ?_ hs
    have e1 : a + ((i + 1 : Nat) : Int) = a + (i : Int) + 1 := by push_cast; (exact om14)
    have e2 : (n : Int) - ((i + 1 : Nat) : Int) = (n : Int) - (i : Int) - 1 := by push_cast; (exact om15)
    show IsRangeIter _ _ _ _ _
    rw [e1, e2]; exact hit
theorem src_end {src : Src} {xs : List Value} {it : Addr} {E : Value → Shared → Prop} {Q : Option Value → Shared → Prop} (hh : A.handled = none) (F : RF c P H env m s) (on : src.on H xs) (x : src.at s.heap it xs.length)
    (q : ∀ h', Heap.ExtBut it s.heap h' → Q none { s with heap := h' }) : wpAny (Mo c) A (pyNext (.ref it)) Q E s := by
  cases src with
  | list l =>
    obtain ⟨vs, n, ho, e⟩ := F.isList on
    exact wpAny_pyNext_list_end hh x ⟨_, ho, rfl, n, rfl⟩ (by rw [← e]; simp) q
  | tup l =>
    obtain ⟨vs, ht, e⟩ := F.isTup on
    exact wpAny_pyNext_tuple_end hh x ht (by rw [← e]; simp) q
  | rng a n =>
    have on : xs = _ := on
    have hl : xs.length = n := by rw [on]; simp
    rw [hl] at x
    exact wpAny_pyNext_range_end hh x (by (exact om16)) q
theorem src_self {src : Src} {it : Addr} {i : Nat} {E : Value → Shared → Prop} {Q : Value → Shared → Prop} (x : src.at s.heap it i) (q : Q (.ref it) s) : wpAny (Mo c) A (pyIter (.ref it)) Q E s := by
  cases src with
  | list l => exact wpAny_pyIter_listiter x q
  | tup l => exact wpAny_pyIter_tupleiter x q
  | rng a n => exact wpAny_pyIter_rangeiter x q
theorem src_letGo {src : Src} {it : Addr} {i : Nat} {target : Expr} {u : Value} {E : Value → Shared → Prop} {Q : Unit → Shared → Prop} (x : src.at s.heap it i) (q : Q () s) : wpAny (Mo c) A (letOwnedTupleGo target (.ref it) u) Q E s := by
  have key : ∀ a, wpAny (Mo c) A (do
      let o ← load it
      match o.cls, o.data with
      | .type n, .fields vs =>
        if ["enumerate", "zip", "dict_itemiterator", "dict_reverseitemiterator", "odict_iterator", "itertools.zip_longest", "itertools.pairwise"].contains n && vs[0]? == some (rawInt a) then do
          rule "for.unpacks-the-owned-tuple"
          updateField it 0 .none
        else pure ()
      | _, _ => pure ()) Q E s := by
    intro a
    obtain ⟨o, ho, hc, vs, hd⟩ : ∃ o, s.heap.get? it = some o ∧ (o.cls = .type "list_iterator" ∨ o.cls = .type "tuple_iterator" ∨ o.cls = .type "range_iterator") ∧ ∃ vs, o.data = .fields vs := by
      cases src with
      | list l => obtain ⟨o, ho, hc, hd⟩ := x; exact ⟨o, ho, .inl hc, _, hd⟩
      | tup l => obtain ⟨o, ho, hc, hd⟩ := x; exact ⟨o, ho, .inr (.inl hc), _, hd⟩
      | rng a n => exact ⟨_, x, .inr (.inr rfl), _, rfl⟩
    refine wpAny_bind (wpAny_load ho ?_)
    rcases hc with hc | hc | hc <;> rw [hc, hd] <;> exact wpAny_pure q
  unfold letOwnedTupleGo
  cases target <;> first | exact wpAny_pure q | (cases u <;> first | exact wpAny_pure q | exact key _)

/-- where a for's items come from -/
noncomputable def SRC (c : Cx) (A : Around) (env : Env) (e : Expr) (H : AH) (m : Ms) (k : Src → AH → Prop) : Prop :=
  ∀ P s E (Q : Value → Shared → Prop), RF c P H env m s →
    (∀ src H' it s', k src H' → RF c P H' env m s' → P it = none → H' it = none → it ≠ env.locals → (∀ x, env.cells.lookup x ≠ some it) → src.at s'.heap it 0 → Q (.ref it) s') →
    wpAny (Mo c) A (eval e env) (fun x s1 => wpAny (Mo c) A (pyIter x) Q E s1) E s

theorem RF.newIt (F : RF c P H env m s) : P s.heap.objs.size = none ∧ H s.heap.objs.size = none ∧ s.heap.objs.size ≠ env.locals ∧ ∀ x, env.cells.lookup x ≠ some s.heap.objs.size := by
  obtain ⟨a, b⟩ := F.toRH.fresh
  refine ⟨a, b, fun q => ?_, fun x q => ?_⟩
  · obtain ⟨nm, hn, _⟩ := F.loc
    exact absurd hn.lt (by rw [← q]; exact Nat.lt_irrefl _)
  · obtain ⟨_, _, v, hv⟩ := F.cel x _ q
    exact absurd hv.lt (Nat.lt_irrefl _)

theorem SRC.list {e : Expr} {k : Src → AH → Prop} (h : EV c A env (eval e env) H m (fun v H1 => ∃ l xs, v = Rf l ∧ H1 l = some (.list xs) ∧ k (.list l) H1)) : SRC c A env e H m k := fun P s E Q F q =>
  wpAny_mono (h P s E F) (fun u s1 q9 => by
    obtain ⟨H1, F1, l, xs, e1, hl, hk⟩ := q9
    have := er_ref e1; subst this
    obtain ⟨vs, n, ho, e⟩ := F1.isList hl
    obtain ⟨z1, z2, z3, z4⟩ := F1.newIt
    refine wpAny_pyIter_list (items := vs) ⟨_, ho, rfl, n, rfl⟩ (q (.list l) H1 _ _ hk (F1.push _) z1 z2 z3 z4 ⟨_, Heap.get?_push_size _ rfl, rfl, rfl⟩)) fun _ _ e => e
theorem SRC.tup {e : Expr} {k : Src → AH → Prop} (h : EV c A env (eval e env) H m (fun v H1 => ∃ l xs, v = Rf l ∧ H1 l = some (.tup xs) ∧ k (.tup l) H1)) : SRC c A env e H m k := fun P s E Q F q =>
  wpAny_mono (h P s E F) (fun u s1 q9 => by
    obtain ⟨H1, F1, l, xs, e1, hl, hk⟩ := q9
    have := er_ref e1; subst this
    obtain ⟨vs, ht, e⟩ := F1.isTup hl
    obtain ⟨z1, z2, z3, z4⟩ := F1.newIt
    refine wpAny_pyIter_tuple ht (q (.tup l) H1 _ _ hk (F1.push _) z1 z2 z3 z4 ⟨_, Heap.get?_push_size _ rfl, rfl, rfl⟩)) fun _ _ e => e

theorem EV.nameB {x : Str} {pos : Pos} {v : Value} {E : Value → Shared → Prop} {Q : Value → Shared → Prop} (F : RF c P H env m s) (G : Gl c K) (e : nsIn K mainGlobals x = some none) (hv : bootBuiltins x = some v) (q : Q v s) (hn : x ≠ "__name__")
    (hk : env.scope.kind = .function) (hx : env.kindOf x = some .globalImplicit) (hg : env.globals = mainGlobals) (hbb : env.builtins = builtinsNs) (hd : (x == ("__debug__" : Str)) = false) :
    wpAny (Mo c) A (eval (.Name x pos) env) Q E s := by
  obtain ⟨mg, g⟩ := G.g
  obtain ⟨mb, b, hb⟩ := G.b
  exact Name_function_global hk hx (loadGlobal_builtin (hg ▸ g.keeps F.toRH.kept) (mg_none_of G.k g e) (hbb ▸ b.keeps F.toRH.kept) ((hb x hn).trans hv) q) hd

theorem callWith_T {T : String} {pos : Pos} {e : Expr} {rest : List Expr} {E : Value → Shared → Prop} {Q : Value → Shared → Prop} (h : wpAny (Mo c) A (spliced (backTo pos (starEach (e :: rest) env))) (fun vs s₁ => wpAny (Mo c) A (PySem.call (.type T) vs) Q E s₁) E s)
    (he : starEach (e :: rest) env = (false, eval e env) :: starEach rest env) (hplain : (backTo pos (starEach rest env)).any (·.1) = false) : wpAny (Mo c) A (callWith pos (.type T) [] (backTo pos (starEach (e :: rest) env)) []) Q E s := by
  rw [he] at h ⊢
  exact PyProof.Rows.callWith_type (by show (false || (backTo pos (starEach rest env)).any (·.1)) = false; rw [hplain]; rfl) (evalArgs_plain h)
theorem callWith_B {T : String} {pos : Pos} {e : Expr} {rest : List Expr} {first : List Value} {E : Value → Shared → Prop} {Q : Value → Shared → Prop} (h : wpAny (Mo c) A (spliced (backTo pos (starEach (e :: rest) env))) (fun vs s₁ => wpAny (Mo c) A (PySem.call (.builtin T) (first ++ vs)) Q E s₁) E s)
    (he : starEach (e :: rest) env = (false, eval e env) :: starEach rest env) (hplain : (backTo pos (starEach rest env)).any (·.1) = false) : wpAny (Mo c) A (callWith pos (.builtin T) first (backTo pos (starEach (e :: rest) env)) []) Q E s := by
  rw [he] at h ⊢
  exact callWith_builtin (by show (false || (backTo pos (starEach rest env)).any (·.1)) = false; rw [hplain]; rfl) (evalArgs_plain h)

theorem SRC.range1 {e : Expr} {p pos : Pos} {k : Src → AH → Prop} (G : Gl c K) (hr : nsIn K mainGlobals (Str.ofString "range") = some none)
    (h : EV c A env (eval e env) H m (fun v H1 => ∃ n : Int, v = I n ∧ n < 2 ^ 60 ∧ -(2 ^ 60) < n ∧ k (.rng 0 n.toNat) H1))
    (hk : autoParam (env.scope.kind = .function) autoRfl) (hx : autoParam (env.kindOf (Str.ofString "range") = some .globalImplicit) autoRfl) (hg : autoParam (env.globals = mainGlobals) autoRfl) (hbb : autoParam (env.builtins = builtinsNs) autoRfl)
    (he : autoParam (starEach [e] env = [(false, eval e env)]) autoRfl) : SRC c A env (.Call (.Name (Str.ofString "range") p) [e] [] pos) H m k := fun P s E Q F q => by
  refine wpAny_Call_NameR (EV.nameB F G hr (v := .type "range") (by rfl) ?_ (by decide) hk hx hg hbb (by decide))
  refine callWith_T (rest := []) ?_ (by rw [he]; rfl) rfl
  rw [he]
  refine spliced_cons (wpAny_mono (h P s E F) (fun u s1 ⟨H1, F1, n, e1, hn, hn2, hk⟩ => spliced_nil ?_) fun _ _ e => e)
  obtain ⟨t, rfl⟩ := er_int e1
  refine call_range_1 ?_
  have F2 : RF c P H1 env m { s1 with heap := s1.heap.push { cls := .type "range", data := .fields #[.int 0 s1.toks, .int n t, .int 1 (s1.toks + 1)] }, toks := s1.toks + 1 + 1 } := F1.push _
  obtain ⟨z1, z2, z3, z4⟩ := F2.newIt
  refine wpAny_pyIter_range (IsRange.new ..) (small_one (by (exact om17)) (by (exact om18)) (by (exact om19 hn hn2)) (by (exact om20 hn hn2))) (q (.rng 0 n.toNat) H1 _ _ hk (F2.push _) z1 z2 z3 z4 ?_)
  have e2 : Builtin.Range.rangeSize 0 n 1 = (n.toNat : Int) := by rw [rangeSize_one]; split <;> (first | exact om21 hn hn2 (by assumption) | exact om22 hn hn2 (by assumption))
  show IsRangeIter _ _ _ _ _
  have e3 : (0 : Int) + ((0 : Nat) : Int) = 0 := rfl
  have e4 : (n.toNat : Int) - ((0 : Nat) : Int) = Builtin.Range.rangeSize 0 n 1 := by rw [e2]; simp
  rw [e3, e4]
  exact Heap.get?_push_size _ rfl
theorem SRC.range2 {e1 e2 : Expr} {p pos : Pos} {k : Src → AH → Prop} (G : Gl c K) (hr : nsIn K mainGlobals (Str.ofString "range") = some none)
    (h : EV c A env (eval e1 env) H m (fun va H1 => EV c A env (eval e2 env) H1 m (fun vb H2 => ∃ a b : Int, va = I a ∧ vb = I b ∧ -(2 ^ 60) < a ∧ a < 2 ^ 60 ∧ -(2 ^ 60) < b ∧ b < 2 ^ 60 ∧ k (.rng a (b - a).toNat) H2)))
    (hk : autoParam (env.scope.kind = .function) autoRfl) (hx : autoParam (env.kindOf (Str.ofString "range") = some .globalImplicit) autoRfl) (hg : autoParam (env.globals = mainGlobals) autoRfl) (hbb : autoParam (env.builtins = builtinsNs) autoRfl)
    (he : autoParam (starEach [e1, e2] env = [(false, eval e1 env), (false, eval e2 env)]) autoRfl) (he' : autoParam (starEach [e2] env = [(false, eval e2 env)]) autoRfl) : SRC c A env (.Call (.Name (Str.ofString "range") p) [e1, e2] [] pos) H m k := fun P s E Q F q => by
  refine wpAny_Call_NameR (EV.nameB F G hr (v := .type "range") (by rfl) ?_ (by decide) hk hx hg hbb (by decide))
  refine callWith_T (rest := [e2]) ?_ (by rw [he, he']) (by rw [he']; rfl)
  rw [he]
  refine spliced_cons (wpAny_mono (h P s E F) (fun u s1 ⟨H1, F1, h1⟩ => spliced_cons (wpAny_mono (h1 P s1 E F1) (fun u' s2 ⟨H2, F2, a, b, e1, e2, b1, b2, b3, b4, hk⟩ => spliced_nil ?_) fun _ _ e => e)) fun _ _ e => e)
  obtain ⟨t, rfl⟩ := er_int e1
  obtain ⟨t', rfl⟩ := er_int e2
  refine call_range_2 ?_
  have F3 : RF c P H2 env m { s2 with heap := s2.heap.push { cls := .type "range", data := .fields #[.int a t, .int b t', .int 1 s2.toks] }, toks := s2.toks + 1 } := F2.push _
  obtain ⟨z1, z2, z3, z4⟩ := F3.newIt
  refine wpAny_pyIter_range (IsRange.new ..) (small_one (by (exact om23 b1 b2)) (by (exact om24 b1 b2)) (by (exact om23 b3 b4)) (by (exact om24 b3 b4))) (q (.rng a (b - a).toNat) H2 _ _ hk (F3.push _) z1 z2 z3 z4 ?_)
  have e2 : Builtin.Range.rangeSize a b 1 = ((b - a).toNat : Int) := by rw [rangeSize_one]; split <;> (first | exact om25 (by assumption) | exact om26 (by assumption))
  show IsRangeIter _ _ _ _ _
  have e3 : a + ((0 : Nat) : Int) = a := by simp
  have e4 : ((b - a).toNat : Int) - ((0 : Nat) : Int) = Builtin.Range.rangeSize a b 1 := by rw [e2]; simp
  rw [e3, e4]
  exact Heap.get?_push_size _ rfl

/-- a for loop by an invariant -/
theorem EX.for_ {target iter : Expr} {body : List Stmt} {pos : Pos} {Q : Flow → AH → Ms → Prop} (hh : A.handled = none)
    (h : SRC c A env iter H m (fun src H0 => ∃ (xs : List Value) (Inv : Nat → AH → Ms → Prop), (∀ i H m, Inv i H m → src.on H xs) ∧ Inv 0 H0 m ∧
      (∀ i v H1 m1, xs[i]? = some v → Inv i H1 m1 → AS c A env (assign target env) v H1 m1 (fun H2 m2 => EX c A env (execs body env) H2 m2 (fun f H3 m3 => match f with
        | .next | .cont => Inv (i + 1) H3 m3
        | .brk => Q .next H3 m3
        | .ret v => Q (.ret v) H3 m3))) ∧
      ∀ H1 m1, Inv xs.length H1 m1 → Q .next H1 m1))
    (hs : autoParam (∀ x, foldedSetIterable iter env x = pure x) autoRfl1) : EX c A env (exec (.For target iter body [] pos) env) H m Q := fun P s E F => by
  refine wpAny_For (h P s E _ F fun src H0 it s0 ⟨xs, Inv, on, i0, turn, done⟩ F0 hP hH hL hC hat => ?_) hs
  have hT := F0.toRH.top_none hP
  refine codeAny_forLoop_any (fun n s' => ∃ i H' m', RF c P H' env m' s' ∧ H' it = none ∧ src.at s'.heap it i ∧ i ≤ xs.length ∧ n = xs.length + 1 - i ∧ Inv i H' m') ?_ (xs.length + 1) ⟨0, H0, m, F0, hH, hat, Nat.zero_le _, rfl, i0⟩
  rintro n s' ⟨i, H', m', F', hH', at', hi, rfl, inv⟩
  cases hv : xs[i]? with
  | none =>
    have hin : i = xs.length := Nat.le_antisymm hi (by simpa using hv)
    subst hin
    refine src_end hh F' (on _ _ _ inv) at' fun h1 he1 => wpAny_execs_nil ?_
    exact ⟨H', m', F'.but (tk := s'.toks) hP hH' hL hC he1, done _ _ inv⟩
  | some v =>
    have hlt : i < xs.length := (List.getElem?_eq_some_iff.mp hv).1
    refine src_item F' (on _ _ _ inv) at' hv fun u h1 tk eu at1 hs1 => ?_
    have F1 : RF c P H' env m' { s' with heap := h1, toks := tk } := F'.but hP hH' hL hC hs1.extBut
    obtain ⟨o, ho⟩ := at1.some
    have F2 := F1.guard ho hP hH' hL hC
    refine src_letGo (src := src) (i := i + 1) at1 ?_
    refine wpAny_mono (turn i v H' m' hv inv _ _ (notedBy (Mo c) A env fun e s' => cameBackBy (Mo c) A env E e s') u F2 eu) (fun _ s2 ⟨H2, m2, F3, h3⟩ => ?_) fun _ _ e => e
    refine wpAny_mono (h3 _ s2 (notedBy (Mo c) A env fun e s' => cameBackBy (Mo c) A env E e s') F3) (fun f s3 ⟨H3, m3, F4, h4⟩ => ?_) fun _ _ e => e
    obtain ⟨F5, ho5, hH5, _⟩ := F4.unguard hP hT
    have next : Inv (i + 1) H3 m3 → ∃ k, k < xs.length + 1 - i ∧ ∃ i H' m', RF c P H' env m' s3 ∧ H' it = none ∧ src.at s3.heap it i ∧ i ≤ xs.length ∧ k = xs.length + 1 - i ∧ Inv i H' m' := fun z =>
      ⟨xs.length + 1 - (i + 1), by (exact om27 hlt), i + 1, H3, m3, F5, hH5, at1.keep ho ho5, hlt, rfl, z⟩
    cases f with
    | next => exact next h4
    | cont => exact next h4
    | brk => exact ⟨H3, m3, F5, h4⟩
    | ret w => exact ⟨H3, m3, F5, h4⟩
end
end Mine

namespace Mine
open PySem PySem.W PySem.Calls PyProof.Rows

noncomputable def closL (cells : List (Str × Addr)) : List (Str × NameKind) → List (Str × Addr) → List (Str × Addr)
  | [], cs => cs
  | (n, k) :: r, cs => if k == .free then (match cells.lookup n with | some a => closL cells r ((n, a) :: cs) | none => closL cells r cs) else closL cells r cs
noncomputable def freeOk (scope : Scope) (env : Env) : Bool := scope.names.all fun x => x.2 != .cell && (x.2 != .free || ((env.cells.lookup x.1).isSome && env.kindOf x.1 == some .cell))
theorem closL_sub {cells : List (Str × Addr)} : ∀ {names : List (Str × NameKind)} {cs : List (Str × Addr)}, (∀ x k, cs.lookup x = some k → cells.lookup x = some k) → ∀ x k, (closL cells names cs).lookup x = some k → cells.lookup x = some k
  | [], _, h => h
  | (n, k) :: r, cs, h => by
    unfold closL
    split
    · split
      · rename_i a q
        refine closL_sub fun x k e => ?_
        rw [List.lookup_cons] at e
        cases z : x == n with
        | true => rw [z] at e; cases e; rw [eq_of_beq z]; exact q
        | false => rw [z] at e; exact h x k e
      · exact closL_sub h
    · exact closL_sub h
theorem closL_keeps {cells : List (Str × Addr)} : ∀ {names : List (Str × NameKind)} {cs : List (Str × Addr)} {x : Str}, (cs.lookup x).isSome = true → ((closL cells names cs).lookup x).isSome = true
  | [], _, _, h => h
  | (n, k) :: r, cs, x, h => by
    unfold closL
    split
    · split
      · refine closL_keeps ?_
        rw [List.lookup_cons]
        cases z : x == n with
        | true => rfl
        | false => exact h
      · exact closL_keeps h
    · exact closL_keeps h
theorem closL_has {cells : List (Str × Addr)} : ∀ {names : List (Str × NameKind)} {cs : List (Str × Addr)} {x : Str}, (x, NameKind.free) ∈ names → (cells.lookup x).isSome = true → ((closL cells names cs).lookup x).isSome = true
  | (n, k) :: r, cs, x, h, hc => by
    unfold closL
    rcases List.mem_cons.mp h with e | h
    · cases e
      rw [if_pos (show (NameKind.free == NameKind.free) = true from rfl)]
      split
      · refine closL_keeps ?_; rw [List.lookup_cons_self]; rfl
      · rename_i q; rw [q] at hc; cases hc
    · split
      · split
        · exact closL_has h hc
        · exact closL_has h hc
      · exact closL_has h hc
theorem closure_eq {scope : Scope} {env : Env} (h : freeOk scope env = true) : closureFor scope env = pure (closL env.cells scope.names []) := by
  have key : ∀ (names : List (Str × NameKind)) (cs : List (Str × Addr)) (f : Str × NameKind → List (Str × Addr) → Sem (ForInStep (List (Str × Addr)))),
      (∀ n k cs, f (n, k) cs = if k == .free then (do let a ← cellOf env n; pure (.yield ((n, a) :: cs))) else pure (.yield cs)) →
      (names.all fun x => x.2 != .cell && (x.2 != .free || ((env.cells.lookup x.1).isSome && env.kindOf x.1 == some .cell))) = true → forIn names cs f = pure (closL env.cells names cs) := by
    intro names
    induction names with
    | nil => intro cs f hf h; rw [List.forIn_nil]; rfl
    | cons p r ih =>
      obtain ⟨n, k⟩ := p
      intro cs f hf h
      rw [List.all_cons, Bool.and_eq_true] at h
      rw [List.forIn_cons, hf]
      unfold closL
      by_cases q : (k == NameKind.free) = true
      · rw [if_pos q, if_pos q]
        have h1 := h.1
        rw [Bool.and_eq_true, Bool.or_eq_true] at h1
        rcases h1.2 with z | z
        · have : k = .free := eq_of_beq q
          subst this; exact absurd (show false = true from z) Bool.false_ne_true
        · rw [Bool.and_eq_true] at z
          obtain ⟨a, ha⟩ := Option.isSome_iff_exists.mp z.1
          rw [ha]
          unfold cellOf
          rw [ha]
          exact ih _ f hf h.2
      · rw [if_neg q, if_neg q]
        exact ih _ f hf h.2
  unfold closureFor
  exact congrArg (fun t => t >>= fun x => pure x) (key scope.names [] _ (fun n k cs => rfl) h)

/-- what a comprehension sees of its frame -/
noncomputable def capt (scope : Scope) (env : Env) (m : Ms) : Ms := fun y => if (relabel scope env).names.lookup y = some .cell then m y else none
theorem relabel_cell {scope : Scope} {env : Env} (h : freeOk scope env = true) {y : Str} (e : (relabel scope env).names.lookup y = some .cell) : (y, NameKind.free) ∈ scope.names ∧ env.kindOf y = some .cell ∧ (env.cells.lookup y).isSome = true := by
  have key : ∀ names : List (Str × NameKind), (names.all fun x => x.2 != .cell && (x.2 != .free || ((env.cells.lookup x.1).isSome && env.kindOf x.1 == some .cell))) = true →
      (names.map fun (n, k) => if (k == .free && env.scope.kind == .function && env.kindOf n == some .cell) then (n, NameKind.cell) else (n, k)).lookup y = some .cell → (y, NameKind.free) ∈ names ∧ env.kindOf y = some .cell ∧ (env.cells.lookup y).isSome = true := by
    intro names
    induction names with
    | nil => intro _ e; cases e
    | cons p r ih =>
      obtain ⟨n, k⟩ := p
      intro h e
      rw [List.all_cons, Bool.and_eq_true] at h
      rw [List.map_cons] at e
      dsimp only at e
      have h1 := h.1
      rw [Bool.and_eq_true, Bool.or_eq_true] at h1
      split at e
      · rename_i q
        rw [List.lookup_cons] at e
        cases z : y == n with
        | true =>
          have hy := eq_of_beq z
          subst hy
          rw [Bool.and_eq_true, Bool.and_eq_true] at q
          have hk : k = .free := eq_of_beq q.1.1
          subst hk
          rcases h1.2 with w | w
          · exact absurd (show false = true from w) Bool.false_ne_true
          · rw [Bool.and_eq_true] at w; exact ⟨.head _, eq_of_beq w.2, w.1⟩
        | false => rw [z] at e; obtain ⟨a, b⟩ := ih h.2 e; exact ⟨.tail _ a, b⟩
      · rw [List.lookup_cons] at e
        cases z : y == n with
        | true => rw [z] at e; cases e; exact absurd (show false = true from h1.1) Bool.false_ne_true
        | false => rw [z] at e; obtain ⟨a, b⟩ := ih h.2 e; exact ⟨.tail _ a, b⟩
  exact key scope.names h e

section
variable {c : Cx} {P : PH} {H : AH} {env : Env} {m : Ms} {s : Shared} {A : Around} {K : Frag}

theorem RF.adopt {D : Addr} {ro : Obj} {o : AObj} (F : RF c P H env m s) (hD : s.heap.get? D = some ro) (hm : Mt c ro o) (hP : P D = none) (hL : D ≠ env.locals) (hC : ∀ x, env.cells.lookup x ≠ some D) (h100 : 100 ≤ D) : RF c P (upd H D o) env m s := by
  refine ⟨⟨F.top, F.keep, fun a o' e => ?_, F.gens, F.os⟩, F.locP, by rw [upd_ne _ _ (Ne.symm hL)]; exact F.locH, F.loc, fun x k e => ?_, F.apart, F.own⟩
  · unfold upd at e
    split at e
    · rename_i q; cases e; subst q; exact ⟨hP, h100, ro, hD, hm⟩
    · exact F.obj a o' e
  · obtain ⟨a, b, d⟩ := F.cel x k e
    exact ⟨by rw [upd_ne _ _ (fun (q : k = D) => hC x (by rw [← q]; exact e))]; exact a, b, d⟩

noncomputable def TS (c : Cx) (A : Around) (env : Env) (ifs : List Expr) (H : AH) (m : Ms) (Q : Bool → AH → Prop) : Prop :=
  ∀ P s E, RF c P H env m s → wpAny (Mo c) A (forIn ifs true fun t r => if r = true then do let ok ← isTrue t env (eval t env); pure (ForInStep.yield ok) else pure (ForInStep.yield r)) (fun b s' => ∃ H', RF c P H' env m s' ∧ Q b H') E s
theorem TS.nil {Q : Bool → AH → Prop} (q : Q true H) : TS c A env [] H m Q := fun P s E F => by rw [List.forIn_nil]; exact wpAny_pure ⟨H, F, q⟩
theorem TS.one {t : Expr} {Q : Bool → AH → Prop} (h : IT c A env t H m Q) : TS c A env [t] H m Q := fun P s E F => by
  rw [List.forIn_cons, if_pos rfl]
  exact wpAny_bind (wpAny_bind (wpAny_mono (h P s E _ rfl F) (fun b s1 ⟨H1, F1, q⟩ => wpAny_pure (by show wpAny (Mo c) A (forIn [] b _) _ E s1; rw [List.forIn_nil]; exact wpAny_pure ⟨H1, F1, q⟩)) fun _ _ e => e))

/-- the comprehension's own frame -/
theorem RF.compEnter {scope : Scope} {C : Addr} {s1 : Shared} (F : RF c P H env m s) (hf : freeOk scope env = true) (hC : C = s.heap.objs.size) (hn : s1.heap.Ns C fun _ => none) (hk : ∀ b o, s.heap.get? b = some o → s1.heap.get? b = some o)
    (e1 : s1.gens = s.gens) (e2 : s1.os = s.os) :
    ∃ P', (∀ b o, P b = some o → P' b = some o) ∧ RF c P' H (compEnvC scope (closL env.cells scope.names []) C env) (capt scope env m) s1 ∧ P' env.locals ≠ none ∧ (∀ x k, env.cells.lookup x = some k → P' k ≠ none) ∧ (∀ b, b ≠ env.locals → (∀ x, env.cells.lookup x ≠ some b) → P' b = P b) ∧
      ∀ H' mc s', RF c P' H' (compEnvC scope (closL env.cells scope.names []) C env) mc s' → RF c P H' env m s' := by
  obtain ⟨P', FH, le, nL, nC, eqP, back⟩ := F.enter
  have hnew : P' C = none ∧ H C = none := hC ▸ FH.fresh
  have sub := closL_sub (cells := env.cells) (names := scope.names) (cs := []) (fun x k e => by cases e)
  have F1 : RH c P' H s1 := ⟨FH.top, fun b o e => hk _ _ (FH.keep b o e), fun a o e => let ⟨x1, x2, ro, y, z⟩ := FH.obj a o e; ⟨x1, x2, ro, hk _ _ y, z⟩, e1 ▸ FH.gens, e2 ▸ FH.os⟩
  refine ⟨P', le, ⟨F1, hnew.1, hnew.2, ⟨_, hn, fun x v e => ?_⟩, fun x k e => ?_, fun x y k ex ey => ?_, fun h => by cases h⟩, nL, nC, eqP, fun H' mc s' F' => back H' s' F'.toRH⟩
  · unfold capt at e
    split at e
    · rename_i q
      obtain ⟨z1, z2, z3⟩ := relabel_cell hf q
      obtain ⟨nm, _, hb⟩ := F.loc
      rcases hb x v e with ⟨w, _⟩ | ⟨_, k, u, l, hc, r⟩
      · rw [z2] at w; cases w
      · refine .inr ⟨q, k, u, ?_, hc.keeps hk, r⟩
        obtain ⟨k', hk'⟩ := Option.isSome_iff_exists.mp (closL_has (cs := []) z1 z3)
        have := sub x k' hk'
        rw [l] at this; cases this; exact hk'
    · cases e
  · have e' := sub x k e
    obtain ⟨a, b, v, d⟩ := F.cel x k e'
    exact ⟨a, fun q => by have q : k = C := q; rw [hC] at q; exact absurd d.lt (by rw [q]; exact Nat.lt_irrefl _), v, d.keeps hk⟩
  · exact F.apart x y k (sub x k ex) (sub y k ey)

theorem RF.weaken {m' : Ms} (F : RF c P H env m s) (h : ∀ x v, m' x = some v → m x = some v) : RF c P H env m' s :=
  ⟨F.toRH, F.locP, F.locH, let ⟨nm, a, b⟩ := F.loc; ⟨nm, a, fun x v e => b x v (h x v e)⟩, F.cel, F.apart, F.own⟩

theorem comp_core' {elt iter : Expr} {x : Str} {px : Pos} {ifs : List Expr} {scope : Scope} {pos : Pos} {use : Option (Value → Sem Unit)} {E : Value → Shared → Prop} {Q : Value → Shared → Prop} (hh : A.handled = none) (F : RF c P H env m s)
    (hf : freeOk scope env = true) (hkind : scope.kind = .function) (hnames : ∀ y ∈ scope.names, y.2 = .local → scope.names.lookup y.1 = some .local) (hx : scope.names.lookup x = some .local)
    (h : SRC c A env iter H m (fun src H0 => ∃ (xs : List Value) (Inv : Nat → List Value → AH → Prop), xs.length ≤ 1000000 ∧ (∀ i ys H, Inv i ys H → src.on H xs ∧ ys.length ≤ i) ∧ Inv 0 [] H0 ∧
      (∀ C i v ys H1, xs[i]? = some v → Inv i ys H1 → TS c A (compEnvC scope (closL env.cells scope.names []) C env) ifs H1 (mset (capt scope env m) x v) (fun b H2 => if b then
          EV c A (compEnvC scope (closL env.cells scope.names []) C env) (eval elt (compEnvC scope (closL env.cells scope.names []) C env)) H2 (mset (capt scope env m) x v) (fun y H3 => Inv (i + 1) (ys ++ [y]) H3) else Inv (i + 1) ys H2)) ∧
      ∀ ys H1 D C s1, Inv xs.length ys H1 → H1 D = none → RF c P (upd H1 D (.list ys)) env m s1 → P C = none → (upd H1 D (.list ys)) C = none → C ≠ env.locals → (∀ x, env.cells.lookup x ≠ some C) → (∃ mC, s1.heap.Ns C mC) → compPost (Mo c) A E use Q (.ref D) C (.ok .next) s1))
    (hs : ∀ x, foldedSetIterable iter env x = pure x) :
    wpAny (Mo c) A (comprehension (.ListComp elt [⟨.Name x px, iter, ifs, 0⟩] scope pos) scope env (firstIterPos [⟨.Name x px, iter, ifs, 0⟩] pos) (newList []) false (eval iter env) use) Q E s := by
  refine wpAny_comprehension_free (cl := closL env.cells scope.names []) rfl hs (closure_eq hf) hkind hnames ?_
  refine h P s E _ F fun src H0 it s0 ⟨xs, Inv, hsz, on, i0, turn, done⟩ F0 hP hH hL hCe hat => ?_
  have hTit := F0.toRH.top_none hP
  -- the list
  refine wpAny_newObj_type ?_ (by show (#[] : Array Value).size ≤ sizeLine; exact Nat.zero_le _)
  obtain ⟨zP, zH, zL, zC⟩ := F0.newIt
  have z100 := F0.toRH.large
  have FD : RF c P H0 env m { s0 with heap := s0.heap.push { cls := .type "list", dict := none, data := .seq ([] : List Value).toArray } } := F0.push _
  have hcell : ∀ y ∈ scope.names, y.2 ≠ .cell := fun y hy q => by
    have := List.all_eq_true.mp hf y hy
    rw [Bool.and_eq_true, q] at this
    exact absurd (show false = true from this.1) Bool.false_ne_true
  refine wpAny_newFunctionEnv hcell (by intro y hy; simp at hy) (fun h₁ hns₁ hsb₁ => ?_) hkind
  dsimp only at hns₁ hsb₁ ⊢
  have hDn : (s0.heap.push { cls := .type "list", dict := none, data := .seq ([] : List Value).toArray }).get? s0.heap.objs.size = some { cls := .type "list", dict := none, data := .seq ([] : List Value).toArray } := Heap.get?_push_size _ rfl
  have hsz2 : (s0.heap.push { cls := .type "list", dict := none, data := .seq ([] : List Value).toArray }).objs.size = s0.heap.objs.size + 1 := Heap.size_push ..
  have hitD : it ≠ s0.heap.objs.size := by
    obtain ⟨o, ho⟩ := hat.some
    exact Nat.ne_of_lt (Heap.lt_size ho)
  generalize hH2 : s0.heap.push { cls := .type "list", dict := none, data := .seq ([] : List Value).toArray } = H2 at *
  generalize hD : s0.heap.objs.size = D at *
  have keep : ∀ b o, H2.get? b = some o → h₁.get? b = some o := fun b o e => hsb₁.extBut b o (Nat.ne_of_lt (Heap.lt_size e)) (Heap.get?_push_of_some _ e)
  have hatH2 : ∀ o, s0.heap.get? it = some o → H2.get? it = some o := fun o e => by rw [← hH2]; exact Heap.get?_push_of_some _ e
  obtain ⟨P', le, FC, nL, nC, eqP, back⟩ := FD.compEnter (s1 := { s0 with heap := h₁, toks := s0.toks + ([] : List (Str × Value)).length }) hf rfl hns₁ keep rfl rfl
  have eit : P' it = none := (eqP it hL hCe).trans hP
  have eD : P' D = none := (eqP D zL zC).trans zP
  have TD := FD.toRH.top_none zP
  -- the loop
  let R : Result → Shared → Prop := compPost (Mo c) A E use Q (.ref D) H2.objs.size
  have sub := closL_sub (cells := env.cells) (names := scope.names) (cs := []) (fun x k e => by cases e)
  have loop : ∀ s3 : Shared, (∃ H' mC, RF c P' H' (compEnvC scope (closL env.cells scope.names []) H2.objs.size env) mC s3 ∧ (∀ y v, capt scope env m y = some v → mC y = some v) ∧ H' it = none ∧ H' D = none ∧ src.at s3.heap it 0 ∧ Inv 0 [] H' ∧
      s3.heap.get? D = some { cls := .type "list", data := .seq #[] }) →
      codeAny (Mo c) A (.compLoop (.ListComp elt [⟨.Name x px, iter, ifs, 0⟩] scope pos) 0 (.ref it) (.ref D) (compEnvC scope (closL env.cells scope.names []) H2.objs.size env)) R s3 := by
    rintro s3 ⟨H3, mC3, F3, w3, hI3, hD3, at3, inv3, get3⟩
    refine codeAny_compLoop_tests (fun n s' => ∃ i ys H' mC vs nD, RF c P' H' (compEnvC scope (closL env.cells scope.names []) H2.objs.size env) mC s' ∧ (∀ y v, capt scope env m y = some v → mC y = some v) ∧ H' it = none ∧ H' D = none ∧ src.at s'.heap it i ∧ i ≤ xs.length ∧ n = xs.length + 1 - i ∧ Inv i ys H' ∧
      s'.heap.get? D = some { cls := .type "list", data := .seq vs nD } ∧ vs.toList.map er = ys) ?_ (xs.length + 1) ⟨0, [], H3, mC3, #[], 0, F3, w3, hI3, hD3, at3, Nat.zero_le _, rfl, inv3, get3, rfl⟩
    rintro n s' ⟨i, ys, H', mC, vs, nD, F', w', hI', hD', at', hi, rfl, inv, get', eys⟩
    have hLit : it ≠ (compEnvC scope (closL env.cells scope.names []) H2.objs.size env).locals := by
      obtain ⟨o, ho⟩ := hat.some
      exact Nat.ne_of_lt (Heap.lt_size (hatH2 o ho))
    have hCit : ∀ y, (compEnvC scope (closL env.cells scope.names []) H2.objs.size env).cells.lookup y ≠ some it := fun y e => hCe y (sub y it e)
    have hLD : D ≠ (compEnvC scope (closL env.cells scope.names []) H2.objs.size env).locals := Nat.ne_of_lt (Heap.lt_size hDn)
    have hCD : ∀ y, (compEnvC scope (closL env.cells scope.names []) H2.objs.size env).cells.lookup y ≠ some D := fun y e => zC y (sub y D e)
    cases hv : xs[i]? with
    | none =>
      have hin : i = xs.length := Nat.le_antisymm hi (by simpa using hv)
      subst hin
      refine src_end hh F' (on _ _ _ inv).1 at' fun h1 he1 => ?_
      have F1 : RF c P' H' (compEnvC scope (closL env.cells scope.names []) H2.objs.size env) mC { s' with heap := h1, toks := s'.toks } := F'.but eit hI' hLit hCit he1
      have get1 : h1.get? D = some { cls := .type "list", data := .seq vs nD } := he1 _ _ (Ne.symm hitD) get'
      have F2 := back _ _ _ F1
      have F3 := F2.adopt (o := .list ys) get1 ⟨vs, nD, rfl, eys⟩ zP zL zC z100
      have hCC : H2.objs.size ≠ env.locals := fun q => nL (by rw [← q]; exact F1.locP)
      refine done ys H' D H2.objs.size _ inv hD' F3 ?_ ?_ hCC (fun y e => nC y _ e F1.locP) (let ⟨nm, a, _⟩ := F1.loc; ⟨nm, a⟩)
      · cases q : P H2.objs.size with
        | none => rfl
        | some o => have := le _ _ q; have q0 : P' H2.objs.size = none := F1.locP; rw [q0] at this; cases this
      · have nDC : H2.objs.size ≠ D := Ne.symm hLD
        rw [upd_ne _ _ nDC]; exact F1.locH
    | some v =>
      have hlt : i < xs.length := (List.getElem?_eq_some_iff.mp hv).1
      refine src_item F' (on _ _ _ inv).1 at' hv fun u h1 tk eu at1 hs1 => ?_
      have F1 : RF c P' H' (compEnvC scope (closL env.cells scope.names []) H2.objs.size env) mC { s' with heap := h1, toks := tk } := F'.but eit hI' hLit hCit hs1.extBut
      have get1 : h1.get? D = some { cls := .type "list", data := .seq vs nD } := hs1.extBut _ _ (Ne.symm hitD) get'
      obtain ⟨o, ho⟩ := at1.some
      have F2 := F1.guard ho eit hI' hLit hCit
      have eD2 : ins P' it o D = none := (ins_ne _ _ (Ne.symm hitD)).trans eD
      have F3 := F2.guard get1 eD2 hD' hLD hCD
      have hTit2 : c.T.get? it = none := hTit
      have wk : ∀ y v', mset (capt scope env m) x v y = some v' → mset mC x (er u) y = some v' := fun y v' e => by
        unfold mset at e ⊢
        split at e
        · rename_i q; rw [if_pos q, eu]; exact e
        · rename_i q; rw [if_neg q]; exact w' _ _ e
      have captx : capt scope env m x = none := by
        unfold capt
        rw [if_neg]
        have : (relabel scope env).names.lookup x = some .local := lookup_relabel_local hx
        rw [this]; intro q; cases q
      have up : ∀ y v', capt scope env m y = some v' → mset (capt scope env m) x v y = some v' := fun y v' e => by
        rw [mset_ne]
        · exact e
        · rintro rfl; rw [captx] at e; cases e
      refine wpAny_assign_Name (F3.bind ?_ fun s4 F4 => ?_)
      · unfold stOk
        have e1 : (compEnvC scope (closL env.cells scope.names []) H2.objs.size env).scope.kind = .function := hkind
        have e2 : (compEnvC scope (closL env.cells scope.names []) H2.objs.size env).kindOf x = some .local := lookup_relabel_local hx
        rw [e1, e2]; rfl
      have F5 := F4.weaken wk
      refine wpAny_mono (turn _ i v ys H' hv inv _ s4 _ F5) (fun b s5 ⟨H5, F6, h6⟩ => ?_) fun _ _ e => e
      have fin : ∀ (s6 : Shared) H6 ys', RF c (ins P' it o) H6 (compEnvC scope (closL env.cells scope.names []) H2.objs.size env) (mset (capt scope env m) x v) s6 → H6 D = none → Inv (i + 1) ys' H6 →
          (∃ vs nD, s6.heap.get? D = some { cls := .type "list", data := .seq vs nD } ∧ vs.toList.map er = ys') →
          ∃ k, k < xs.length + 1 - i ∧ ∃ i ys H' mC vs nD, RF c P' H' (compEnvC scope (closL env.cells scope.names []) H2.objs.size env) mC s6 ∧ (∀ y v, capt scope env m y = some v → mC y = some v) ∧ H' it = none ∧ H' D = none ∧ src.at s6.heap it i ∧ i ≤ xs.length ∧ k = xs.length + 1 - i ∧ Inv i ys H' ∧
            s6.heap.get? D = some { cls := .type "list", data := .seq vs nD } ∧ vs.toList.map er = ys := fun s6 H6 ys' G hD6 inv6 q9 => by
        obtain ⟨vs', nD', g1, g2⟩ := q9
        obtain ⟨G2, ho6, hI6, _⟩ := G.unguard eit hTit2
        exact ⟨xs.length + 1 - (i + 1), by (exact om27 hlt), i + 1, ys', H6, _, vs', nD', G2, up, hI6, hD6, at1.keep ho ho6, hlt, rfl, inv6, g1, g2⟩
      cases b with
      | false =>
        rw [if_neg Bool.false_ne_true]
        rw [if_neg Bool.false_ne_true] at h6
        obtain ⟨F7, get7, hD7, _⟩ := F6.unguard eD2 TD
        exact fin s5 H5 ys F7 hD7 h6 ⟨vs, nD, get7, eys⟩
      | true =>
        rw [if_pos rfl]
        rw [if_pos rfl] at h6
        refine wpAny_mono (h6 _ s5 _ F6) (fun y s6 ⟨H6, F7, inv7⟩ => ?_) fun _ _ e => e
        obtain ⟨F8, get8, hD8, _⟩ := F7.unguard eD2 TD
        have hvs : vs.size ≤ sizeLine := by
          have e1 : vs.size = ys.length := by rw [← eys]; simp
          have e2 := (on _ _ _ inv).2
          rw [e1, sizeLine_eq]; (exact om28 hsz hlt e2)
        refine wpAny_list_append_plain (hsz := hvs) ⟨nD, get8⟩ fun h9 ⟨n9, hl9⟩ hs9 => ?_
        have F9 : RF c (ins P' it o) H6 (compEnvC scope (closL env.cells scope.names []) H2.objs.size env) (mset (capt scope env m) x v) { s6 with heap := h9, toks := s6.toks } := F8.but eD2 hD8 hLD hCD hs9.extBut
        exact fin _ H6 (ys ++ [er y]) F9 hD8 inv7 ⟨vs.push y, n9, hl9, by rw [Array.toList_push, List.map_append, eys]; rfl⟩
  have hI0 : H0 it = none := hH
  have at0 : src.at h₁ it 0 := by
    obtain ⟨o, ho⟩ := hat.some
    exact hat.keep ho (keep _ _ (hatH2 o ho))
  have start : ∃ H' mC, RF c P' H' (compEnvC scope (closL env.cells scope.names []) H2.objs.size env) mC { s0 with heap := h₁, toks := s0.toks + ([] : List (Str × Value)).length } ∧ (∀ y v, capt scope env m y = some v → mC y = some v) ∧ H' it = none ∧ H' D = none ∧ src.at h₁ it 0 ∧ Inv 0 [] H' ∧
      h₁.get? D = some { cls := .type "list", data := .seq #[] } := ⟨H0, _, FC, fun _ _ e => e, hI0, zH, at0, i0, keep _ _ hDn⟩
  exact codeAny_compStart_list (loop _ start) (src_self at0 (loop _ start))

theorem comp_core {elt iter : Expr} {x : Str} {px : Pos} {ifs : List Expr} {scope : Scope} {pos : Pos} {use : Option (Value → Sem Unit)} {E : Value → Shared → Prop} {Q : Value → Shared → Prop} (hh : A.handled = none) (F : RF c P H env m s)
    (hf : freeOk scope env = true) (hkind : scope.kind = .function) (hnames : ∀ y ∈ scope.names, y.2 = .local → scope.names.lookup y.1 = some .local) (hx : scope.names.lookup x = some .local)
    (h : SRC c A env iter H m (fun src H0 => ∃ (xs : List Value) (Inv : Nat → List Value → AH → Prop), xs.length ≤ 1000000 ∧ (∀ i ys H, Inv i ys H → src.on H xs ∧ ys.length ≤ i) ∧ Inv 0 [] H0 ∧
      (∀ C cl i v ys H1, xs[i]? = some v → Inv i ys H1 → TS c A (compEnvC scope cl C env) ifs H1 (mset (capt scope env m) x v) (fun b H2 => if b then
          EV c A (compEnvC scope cl C env) (eval elt (compEnvC scope cl C env)) H2 (mset (capt scope env m) x v) (fun y H3 => Inv (i + 1) (ys ++ [y]) H3) else Inv (i + 1) ys H2)) ∧
      ∀ ys H1 D C s1, Inv xs.length ys H1 → H1 D = none → RF c P (upd H1 D (.list ys)) env m s1 → P C = none → (upd H1 D (.list ys)) C = none → C ≠ env.locals → (∀ x, env.cells.lookup x ≠ some C) → (∃ mC, s1.heap.Ns C mC) → compPost (Mo c) A E use Q (.ref D) C (.ok .next) s1))
    (hs : ∀ x, foldedSetIterable iter env x = pure x) :
    wpAny (Mo c) A (comprehension (.ListComp elt [⟨.Name x px, iter, ifs, 0⟩] scope pos) scope env (firstIterPos [⟨.Name x px, iter, ifs, 0⟩] pos) (newList []) false (eval iter env) use) Q E s :=
  comp_core' hh F hf hkind hnames hx (fun P' s' E' Q' F' k => h P' s' E' Q' F' fun src H' it s2 ⟨xs, Inv, a1, a2, a3, a4, a5⟩ b1 b2 b3 b4 b5 b6 => k src H' it s2 ⟨xs, Inv, a1, a2, a3, fun C i v ys H1 hv hi => a4 C _ i v ys H1 hv hi, a5⟩ b1 b2 b3 b4 b5 b6) hs

/-- a comprehension as a value -/
theorem EV.comp {elt iter : Expr} {x : Str} {px : Pos} {ifs : List Expr} {scope : Scope} {pos : Pos} {Q : Value → AH → Prop} (hh : A.handled = none)
    (h : SRC c A env iter H m (fun src H0 => ∃ (xs : List Value) (Inv : Nat → List Value → AH → Prop), xs.length ≤ 1000000 ∧ (∀ i ys H, Inv i ys H → src.on H xs ∧ ys.length ≤ i) ∧ Inv 0 [] H0 ∧
      (∀ C cl i v ys H1, xs[i]? = some v → Inv i ys H1 → TS c A (compEnvC scope cl C env) ifs H1 (mset (capt scope env m) x v) (fun b H2 => if b then
          EV c A (compEnvC scope cl C env) (eval elt (compEnvC scope cl C env)) H2 (mset (capt scope env m) x v) (fun y H3 => Inv (i + 1) (ys ++ [y]) H3) else Inv (i + 1) ys H2)) ∧
      ∀ ys H1 D, Inv xs.length ys H1 → H1 D = none → Q (Rf D) (upd H1 D (.list ys))))
    (hf : autoParam (freeOk scope env = true) autoRfl) (hkind : autoParam (scope.kind = .function) autoRfl) (hnames : autoParam (∀ y ∈ scope.names, y.2 = .local → scope.names.lookup y.1 = some .local) autoDec) (hx : autoParam (scope.names.lookup x = some .local) autoRfl)
    (hs : autoParam (∀ x, foldedSetIterable iter env x = pure x) autoRfl1) : EV c A env (eval (.ListComp elt [⟨.Name x px, iter, ifs, 0⟩] scope pos) env) H m Q := fun P s E F => by
  rw [eval_ListComp]
  refine comp_core (use := none) hh F hf hkind hnames hx (fun P' s' E' Q' F' k => h P' s' E' Q' F' fun src H' it s2 ⟨xs, Inv, a1, a2, a3, a4, a5⟩ b1 b2 b3 b4 b5 b6 => k src H' it s2 ⟨xs, Inv, a1, a2, a3, a4, ?_⟩ b1 b2 b3 b4 b5 b6) hs
  intro ys H1 D C s1 inv hD F1 c1 c2 c3 c4 ⟨mC, hC⟩
  refine ⟨mC, hC, fun h' hs' => ⟨_, F1.but (tk := s1.toks) c1 c2 c3 c4 hs'.extBut, a5 ys H1 D inv hD⟩⟩

/-- a comprehension stored at once -/
theorem EX.setcomp {elt iter : Expr} {x y : Str} {px py : Pos} {ifs : List Expr} {scope : Scope} {pos spos : Pos} {Q : Flow → AH → Ms → Prop} (hh : A.handled = none)
    (h : SRC c A env iter H m (fun src H0 => ∃ (xs : List Value) (Inv : Nat → List Value → AH → Prop), xs.length ≤ 1000000 ∧ (∀ i ys H, Inv i ys H → src.on H xs ∧ ys.length ≤ i) ∧ Inv 0 [] H0 ∧
      (∀ C cl i v ys H1, xs[i]? = some v → Inv i ys H1 → TS c A (compEnvC scope cl C env) ifs H1 (mset (capt scope env m) x v) (fun b H2 => if b then
          EV c A (compEnvC scope cl C env) (eval elt (compEnvC scope cl C env)) H2 (mset (capt scope env m) x v) (fun y H3 => Inv (i + 1) (ys ++ [y]) H3) else Inv (i + 1) ys H2)) ∧
      ∀ ys H1 D, Inv xs.length ys H1 → H1 D = none → Q .next (upd H1 D (.list ys)) (mset m y (Rf D))))
    (st : autoParam (stOk env y = true) autoRfl)
    (hsw : autoParam (swapsWith (.ListComp elt [⟨.Name x px, iter, ifs, 0⟩] scope pos) (some (.Name y py)) spos.line env = pure true) autoRfl)
    (hf : autoParam (freeOk scope env = true) autoRfl) (hkind : autoParam (scope.kind = .function) autoRfl) (hnames : autoParam (∀ y ∈ scope.names, y.2 = .local → scope.names.lookup y.1 = some .local) autoDec) (hx : autoParam (scope.names.lookup x = some .local) autoRfl)
    (hs : autoParam (∀ x, foldedSetIterable iter env x = pure x) autoRfl1) : EX c A env (exec (.Assign [.Name y py] (.ListComp elt [⟨.Name x px, iter, ifs, 0⟩] scope pos) spos) env) H m Q := fun P s E F => by
  rw [exec_Assign_Name_used _ _ _ _ hsw]
  refine wpAny_bind (wpAny_standAt (wpAny_bind ?_))
  show wpAny _ A (do let _ ← comprehension (.ListComp elt [⟨.Name x px, iter, ifs, 0⟩] scope pos) scope env _ (newList []) false (eval iter env) (some (assign (.Name y py) env))) _ _ s
  refine wpAny_bind (wpAny_mono (comp_core (use := some (assign (.Name y py) env)) (Q := fun _ s' => ∃ H' m', RF c P H' env m' s' ∧ Q .next H' m') hh F hf hkind hnames hx (fun P' s' E' Q' F' k => h P' s' E' Q' F' fun src H' it s2 ⟨xs, Inv, a1, a2, a3, a4, a5⟩ b1 b2 b3 b4 b5 b6 => k src H' it s2 ⟨xs, Inv, a1, a2, a3, a4, ?_⟩ b1 b2 b3 b4 b5 b6) hs)
    (fun _ s' q => wpAny_pure (wpAny_pure q)) fun _ _ e => e)
  intro ys H1 D C s1 inv hD F1 c1 c2 c3 c4 ⟨mC, hC⟩
  obtain ⟨oC, es, ep, hoC, hr⟩ := hC
  have T1 := F1.toRH.top_none c1
  have F2 := F1.guard hoC c1 c2 c3 c4
  show wpAny _ A (assign (.Name y py) env (.ref D)) _ _ _
  refine wpAny_assign_Name (F2.bind st fun s2 F3 => ?_)
  obtain ⟨F4, ho4, h4, _⟩ := F3.unguard c1 T1
  exact ⟨mC, ⟨oC, es, ep, ho4, hr⟩, fun h' hs' => ⟨_, _, F4.but (tk := s2.toks) c1 h4 c3 c4 hs'.extBut, a5 ys H1 D inv hD⟩⟩
/-- a comprehension as a value -/
theorem EV.comp' {elt iter : Expr} {x : Str} {px : Pos} {ifs : List Expr} {scope : Scope} {pos : Pos} {Q : Value → AH → Prop} (hh : A.handled = none)
    (h : SRC c A env iter H m (fun src H0 => ∃ (xs : List Value) (Inv : Nat → List Value → AH → Prop), xs.length ≤ 1000000 ∧ (∀ i ys H, Inv i ys H → src.on H xs ∧ ys.length ≤ i) ∧ Inv 0 [] H0 ∧
      (∀ C i v ys H1, xs[i]? = some v → Inv i ys H1 → TS c A (compEnvC scope (closL env.cells scope.names []) C env) ifs H1 (mset (capt scope env m) x v) (fun b H2 => if b then
          EV c A (compEnvC scope (closL env.cells scope.names []) C env) (eval elt (compEnvC scope (closL env.cells scope.names []) C env)) H2 (mset (capt scope env m) x v) (fun y H3 => Inv (i + 1) (ys ++ [y]) H3) else Inv (i + 1) ys H2)) ∧
      ∀ ys H1 D, Inv xs.length ys H1 → H1 D = none → Q (Rf D) (upd H1 D (.list ys))))
    (hf : autoParam (freeOk scope env = true) autoRfl) (hkind : autoParam (scope.kind = .function) autoRfl) (hnames : autoParam (∀ y ∈ scope.names, y.2 = .local → scope.names.lookup y.1 = some .local) autoDec) (hx : autoParam (scope.names.lookup x = some .local) autoRfl)
    (hs : autoParam (∀ x, foldedSetIterable iter env x = pure x) autoRfl1) : EV c A env (eval (.ListComp elt [⟨.Name x px, iter, ifs, 0⟩] scope pos) env) H m Q := fun P s E F => by
  rw [eval_ListComp]
  refine comp_core' (use := none) hh F hf hkind hnames hx (fun P' s' E' Q' F' k => h P' s' E' Q' F' fun src H' it s2 ⟨xs, Inv, a1, a2, a3, a4, a5⟩ b1 b2 b3 b4 b5 b6 => k src H' it s2 ⟨xs, Inv, a1, a2, a3, a4, ?_⟩ b1 b2 b3 b4 b5 b6) hs
  intro ys H1 D C s1 inv hD F1 c1 c2 c3 c4 ⟨mC, hC⟩
  refine ⟨mC, hC, fun h' hs' => ⟨_, F1.but (tk := s1.toks) c1 c2 c3 c4 hs'.extBut, a5 ys H1 D inv hD⟩⟩

/-- a comprehension stored at once -/
theorem EX.setcomp' {elt iter : Expr} {x y : Str} {px py : Pos} {ifs : List Expr} {scope : Scope} {pos spos : Pos} {Q : Flow → AH → Ms → Prop} (hh : A.handled = none)
    (h : SRC c A env iter H m (fun src H0 => ∃ (xs : List Value) (Inv : Nat → List Value → AH → Prop), xs.length ≤ 1000000 ∧ (∀ i ys H, Inv i ys H → src.on H xs ∧ ys.length ≤ i) ∧ Inv 0 [] H0 ∧
      (∀ C i v ys H1, xs[i]? = some v → Inv i ys H1 → TS c A (compEnvC scope (closL env.cells scope.names []) C env) ifs H1 (mset (capt scope env m) x v) (fun b H2 => if b then
          EV c A (compEnvC scope (closL env.cells scope.names []) C env) (eval elt (compEnvC scope (closL env.cells scope.names []) C env)) H2 (mset (capt scope env m) x v) (fun y H3 => Inv (i + 1) (ys ++ [y]) H3) else Inv (i + 1) ys H2)) ∧
      ∀ ys H1 D, Inv xs.length ys H1 → H1 D = none → Q .next (upd H1 D (.list ys)) (mset m y (Rf D))))
    (st : autoParam (stOk env y = true) autoRfl)
    (hsw : autoParam (swapsWith (.ListComp elt [⟨.Name x px, iter, ifs, 0⟩] scope pos) (some (.Name y py)) spos.line env = pure true) autoRfl)
    (hf : autoParam (freeOk scope env = true) autoRfl) (hkind : autoParam (scope.kind = .function) autoRfl) (hnames : autoParam (∀ y ∈ scope.names, y.2 = .local → scope.names.lookup y.1 = some .local) autoDec) (hx : autoParam (scope.names.lookup x = some .local) autoRfl)
    (hs : autoParam (∀ x, foldedSetIterable iter env x = pure x) autoRfl1) : EX c A env (exec (.Assign [.Name y py] (.ListComp elt [⟨.Name x px, iter, ifs, 0⟩] scope pos) spos) env) H m Q := fun P s E F => by
  rw [exec_Assign_Name_used _ _ _ _ hsw]
  refine wpAny_bind (wpAny_standAt (wpAny_bind ?_))
  show wpAny _ A (do let _ ← comprehension (.ListComp elt [⟨.Name x px, iter, ifs, 0⟩] scope pos) scope env _ (newList []) false (eval iter env) (some (assign (.Name y py) env))) _ _ s
  refine wpAny_bind (wpAny_mono (comp_core' (use := some (assign (.Name y py) env)) (Q := fun _ s' => ∃ H' m', RF c P H' env m' s' ∧ Q .next H' m') hh F hf hkind hnames hx (fun P' s' E' Q' F' k => h P' s' E' Q' F' fun src H' it s2 ⟨xs, Inv, a1, a2, a3, a4, a5⟩ b1 b2 b3 b4 b5 b6 => k src H' it s2 ⟨xs, Inv, a1, a2, a3, a4, ?_⟩ b1 b2 b3 b4 b5 b6) hs)
    (fun _ s' q => wpAny_pure (wpAny_pure q)) fun _ _ e => e)
  intro ys H1 D C s1 inv hD F1 c1 c2 c3 c4 ⟨mC, hC⟩
  obtain ⟨oC, es, ep, hoC, hr⟩ := hC
  have T1 := F1.toRH.top_none c1
  have F2 := F1.guard hoC c1 c2 c3 c4
  show wpAny _ A (assign (.Name y py) env (.ref D)) _ _ _
  refine wpAny_assign_Name (F2.bind st fun s2 F3 => ?_)
  obtain ⟨F4, ho4, h4, _⟩ := F3.unguard c1 T1
  exact ⟨mC, ⟨oC, es, ep, ho4, hr⟩, fun h' hs' => ⟨_, _, F4.but (tk := s2.toks) c1 h4 c3 c4 hs'.extBut, a5 ys H1 D inv hD⟩⟩
end
end Mine

namespace Mine
open PySem PySem.W PySem.Calls PyProof.Rows

inductive LenP (v : Value) (H1 : AH) (Q : Value → AH → Prop) : Prop
  | mk (l : Addr) (xs : List Value) (e : v = Rf l) (hl : H1 l = some (.list xs)) (hz : (xs.length : Int) < 2 ^ 63) (q : Q (I xs.length) H1) : LenP v H1 Q
inductive AppP (ov : Value) (H1 : AH) (R : Addr → Prop) : Prop
  | mk (l : Addr) (xs : List Value) (e : ov = Rf l) (hl : H1 l = some (.list xs)) (r : R l) : AppP ov H1 R
inductive App2P (l : Addr) (H2 : AH) (R : List Value → Prop) : Prop
  | mk (ys : List Value) (hl : H2 l = some (.list ys)) (hz : ys.length ≤ 1000000) (r : R ys) : App2P l H2 R

theorem ints_of {vs : List Value} {ns : List Int} (e : vs.map er = ns.map I) : IntsAre vs ns := by
  induction vs generalizing ns with
  | nil => cases ns with
    | nil => exact .nil
    | cons n r => cases e
  | cons v r ih => cases ns with
    | nil => cases e
    | cons n q =>
      rw [List.map_cons, List.map_cons] at e
      obtain ⟨e1, e2⟩ := List.cons.inj e
      obtain ⟨t, rfl⟩ := er_int e1
      exact .cons n t (ih e2)

section
variable {c : Cx} {P : PH} {H : AH} {env : Env} {m : Ms} {s : Shared} {A : Around} {K : Frag}

/-- a call of a built-in by its name, one argument -/
theorem EV.callB1 {x : Str} {id : String} {p pos : Pos} {e : Expr} {Q : Value → AH → Prop} (G : Gl c K) (hr : nsIn K mainGlobals x = some none) (hv : bootBuiltins x = some (.builtin id))
    (h : EV c A env (eval e env) H m (fun v H1 => ∀ P s E u, RF c P H1 env m s → er u = v → wpAny (Mo c) A (PySem.call (.builtin id) [u]) (fun r s' => ∃ H', RF c P H' env m s' ∧ Q (er r) H') E s))
    (hn : autoParam (x ≠ "__name__") autoDec) (hk : autoParam (env.scope.kind = .function) autoRfl) (hx : autoParam (env.kindOf x = some .globalImplicit) autoRfl) (hg : autoParam (env.globals = mainGlobals) autoRfl) (hbb : autoParam (env.builtins = builtinsNs) autoRfl) (hd : autoParam ((x == ("__debug__" : Str)) = false) autoDec)
    (he : autoParam (starEach [e] env = [(false, eval e env)]) autoRfl) : EV c A env (eval (.Call (.Name x p) [e] [] pos) env) H m Q := fun P s E F => by
  refine wpAny_Call_NameR (EV.nameB F G hr hv ?_ hn hk hx hg hbb hd)
  refine callWith_B (rest := []) (first := []) ?_ (by rw [he]; rfl) rfl
  rw [he]
  exact spliced_cons (wpAny_mono (h P s E F) (fun u s1 ⟨H1, F1, q⟩ => spliced_nil (q P s1 E u F1 rfl)) fun _ _ e => e)
theorem EV.callB2 {x : Str} {id : String} {p pos : Pos} {e1 e2 : Expr} {Q : Value → AH → Prop} (G : Gl c K) (hr : nsIn K mainGlobals x = some none) (hv : bootBuiltins x = some (.builtin id))
    (h : EV c A env (eval e1 env) H m (fun v H1 => EV c A env (eval e2 env) H1 m (fun v' H2 => ∀ P s E u u', RF c P H2 env m s → er u = v → er u' = v' → wpAny (Mo c) A (PySem.call (.builtin id) [u, u']) (fun r s' => ∃ H', RF c P H' env m s' ∧ Q (er r) H') E s)))
    (hn : autoParam (x ≠ "__name__") autoDec) (hk : autoParam (env.scope.kind = .function) autoRfl) (hx : autoParam (env.kindOf x = some .globalImplicit) autoRfl) (hg : autoParam (env.globals = mainGlobals) autoRfl) (hbb : autoParam (env.builtins = builtinsNs) autoRfl) (hd : autoParam ((x == ("__debug__" : Str)) = false) autoDec)
    (he : autoParam (starEach [e1, e2] env = [(false, eval e1 env), (false, eval e2 env)]) autoRfl) (he' : autoParam (starEach [e2] env = [(false, eval e2 env)]) autoRfl) : EV c A env (eval (.Call (.Name x p) [e1, e2] [] pos) env) H m Q := fun P s E F => by
  refine wpAny_Call_NameR (EV.nameB F G hr hv ?_ hn hk hx hg hbb hd)
  refine callWith_B (rest := [e2]) (first := []) ?_ (by rw [he, he']) (by rw [he']; rfl)
  rw [he]
  exact spliced_cons (wpAny_mono (h P s E F) (fun u s1 ⟨H1, F1, h1⟩ => spliced_cons (wpAny_mono (h1 P s1 E F1) (fun u' s2 ⟨H2, F2, q⟩ => spliced_nil (q P s2 E u u' F2 rfl rfl)) fun _ _ e => e)) fun _ _ e => e)
theorem EV.callT1 {x : Str} {id : String} {p pos : Pos} {e : Expr} {Q : Value → AH → Prop} (G : Gl c K) (hr : nsIn K mainGlobals x = some none) (hv : bootBuiltins x = some (.type id))
    (h : EV c A env (eval e env) H m (fun v H1 => ∀ P s E u, RF c P H1 env m s → er u = v → wpAny (Mo c) A (PySem.call (.type id) [u]) (fun r s' => ∃ H', RF c P H' env m s' ∧ Q (er r) H') E s))
    (hn : autoParam (x ≠ "__name__") autoDec) (hk : autoParam (env.scope.kind = .function) autoRfl) (hx : autoParam (env.kindOf x = some .globalImplicit) autoRfl) (hg : autoParam (env.globals = mainGlobals) autoRfl) (hbb : autoParam (env.builtins = builtinsNs) autoRfl) (hd : autoParam ((x == ("__debug__" : Str)) = false) autoDec)
    (he : autoParam (starEach [e] env = [(false, eval e env)]) autoRfl) : EV c A env (eval (.Call (.Name x p) [e] [] pos) env) H m Q := fun P s E F => by
  refine wpAny_Call_NameR (EV.nameB F G hr hv ?_ hn hk hx hg hbb hd)
  refine callWith_T (rest := []) ?_ (by rw [he]; rfl) rfl
  rw [he]
  exact spliced_cons (wpAny_mono (h P s E F) (fun u s1 ⟨H1, F1, q⟩ => spliced_nil (q P s1 E u F1 rfl)) fun _ _ e => e)

theorem RF.isL {l : Addr} {xs : List Value} (F : RF c P H env m s) (h : H l = some (.list xs)) : ∃ vs : Array Value, s.heap.IsList l vs ∧ vs.toList.map er = xs := by
  obtain ⟨vs, n, ho, e⟩ := F.isList h; exact ⟨vs, ⟨_, ho, rfl, n, rfl⟩, e⟩
theorem size_of {vs : Array Value} {xs : List Value} (e : vs.toList.map er = xs) : vs.size = xs.length := by rw [← e]; simp

theorem EV.len {p pos : Pos} {e : Expr} {Q : Value → AH → Prop} (G : Gl c K) (hr : nsIn K mainGlobals (Str.ofString "len") = some none)
    (h : EV c A env (eval e env) H m (fun v H1 => LenP v H1 Q))
    (hk : autoParam (env.scope.kind = .function) autoRfl) (hx : autoParam (env.kindOf (Str.ofString "len") = some .globalImplicit) autoRfl) (hg : autoParam (env.globals = mainGlobals) autoRfl) (hbb : autoParam (env.builtins = builtinsNs) autoRfl)
    (he : autoParam (starEach [e] env = [(false, eval e env)]) autoRfl) : EV c A env (eval (.Call (.Name (Str.ofString "len") p) [e] [] pos) env) H m Q :=
  EV.callB1 G hr (id := "len") (by rfl) (h.mono fun v H1 q9 P s E u F eu => by
    obtain ⟨l, xs, e1, hl, hz, q⟩ := q9
    have := er_ref (eu.trans e1); subst this
    obtain ⟨vs, hL, e⟩ := F.isL hl
    have hsz := size_of e
    exact call_len_list hL (by rw [hsz]; exact hz) ⟨H1, F.tok, by rw [hsz]; exact q⟩) (by decide) hk hx hg hbb (by decide) he

theorem EV.sum {p pos : Pos} {e : Expr} {Q : Value → AH → Prop} (G : Gl c K) (hr : nsIn K mainGlobals (Str.ofString "sum") = some none) (hh : A.handled = none)
    (h : EV c A env (eval e env) H m (fun v H1 => ∃ (l : Addr) (ns : List Int), v = Rf l ∧ H1 l = some (.list (ns.map I)) ∧ Q (I ns.sum) H1))
    (hk : autoParam (env.scope.kind = .function) autoRfl) (hx : autoParam (env.kindOf (Str.ofString "sum") = some .globalImplicit) autoRfl) (hg : autoParam (env.globals = mainGlobals) autoRfl) (hbb : autoParam (env.builtins = builtinsNs) autoRfl)
    (he : autoParam (starEach [e] env = [(false, eval e env)]) autoRfl) : EV c A env (eval (.Call (.Name (Str.ofString "sum") p) [e] [] pos) env) H m Q :=
  EV.callB1 G hr (id := "sum") (by rfl) (h.mono fun v H1 q9 P s E u F eu => by
    obtain ⟨l, ns, e1, hl, q⟩ := q9
    have := er_ref (eu.trans e1); subst this
    obtain ⟨vs, hL, e⟩ := F.isL hl
    have hi := ints_of e
    obtain ⟨xs, hxs⟩ := AllInts.items (vs := vs) (fun v hv => by
      obtain ⟨k, hk', e'⟩ := List.getElem_of_mem (Array.mem_toList_iff.mpr hv)
      have : v ∈ vs.toList := Array.mem_toList_iff.mpr hv
      have h2 : er v ∈ ns.map I := by rw [← e]; exact List.mem_map_of_mem this
      obtain ⟨n, _, e3⟩ := List.mem_map.mp h2
      obtain ⟨t, rfl⟩ := er_int e3.symm
      exact ⟨n, t, rfl⟩)
    subst hxs
    have hns : xs.toList.map (·.1) = ns := by rw [← nums_intItems]; exact hi.numsOf
    refine sum_intListG hh hL fun h' tk t' k => ⟨H1, F.keeps k, ?_⟩
    rw [preSum_eq, List.take_of_length_le (by simp), hns]; exact q) (by decide) hk hx hg hbb (by decide) he

theorem EV.min2 {p pos : Pos} {e1 e2 : Expr} {Q : Value → AH → Prop} (G : Gl c K) (hr : nsIn K mainGlobals (Str.ofString "min") = some none) (hh : A.handled = none)
    (h : EV c A env (eval e1 env) H m (fun v H1 => EV c A env (eval e2 env) H1 m (fun v' H2 => ∃ a b : Int, v = I a ∧ v' = I b ∧ Q (I (if b < a then b else a)) H2)))
    (hk : autoParam (env.scope.kind = .function) autoRfl) (hx : autoParam (env.kindOf (Str.ofString "min") = some .globalImplicit) autoRfl) (hg : autoParam (env.globals = mainGlobals) autoRfl) (hbb : autoParam (env.builtins = builtinsNs) autoRfl)
    (he : autoParam (starEach [e1, e2] env = [(false, eval e1 env), (false, eval e2 env)]) autoRfl) (he' : autoParam (starEach [e2] env = [(false, eval e2 env)]) autoRfl) : EV c A env (eval (.Call (.Name (Str.ofString "min") p) [e1, e2] [] pos) env) H m Q :=
  EV.callB2 G hr (id := "min") (by rfl) (h.mono fun v H1 h1 => h1.mono fun v' H2 q9 P s E u u' F eu eu' => by
    obtain ⟨a, b, ea, eb, q⟩ := q9
    obtain ⟨t, rfl⟩ := er_int (eu.trans ea)
    obtain ⟨t', rfl⟩ := er_int (eu'.trans eb)
    refine min_two_ints hh fun h' tk k => ⟨H2, F.keeps k, ?_⟩
    by_cases z : b < a
    · rw [if_pos z]; rw [if_pos z] at q; exact q
    · rw [if_neg z]; rw [if_neg z] at q; exact q) (by decide) hk hx hg hbb (by decide) he he'
theorem EV.max2 {p pos : Pos} {e1 e2 : Expr} {Q : Value → AH → Prop} (G : Gl c K) (hr : nsIn K mainGlobals (Str.ofString "max") = some none) (hh : A.handled = none)
    (h : EV c A env (eval e1 env) H m (fun v H1 => EV c A env (eval e2 env) H1 m (fun v' H2 => ∃ a b : Int, v = I a ∧ v' = I b ∧ Q (I (if b > a then b else a)) H2)))
    (hk : autoParam (env.scope.kind = .function) autoRfl) (hx : autoParam (env.kindOf (Str.ofString "max") = some .globalImplicit) autoRfl) (hg : autoParam (env.globals = mainGlobals) autoRfl) (hbb : autoParam (env.builtins = builtinsNs) autoRfl)
    (he : autoParam (starEach [e1, e2] env = [(false, eval e1 env), (false, eval e2 env)]) autoRfl) (he' : autoParam (starEach [e2] env = [(false, eval e2 env)]) autoRfl) : EV c A env (eval (.Call (.Name (Str.ofString "max") p) [e1, e2] [] pos) env) H m Q :=
  EV.callB2 G hr (id := "max") (by rfl) (h.mono fun v H1 h1 => h1.mono fun v' H2 q9 P s E u u' F eu eu' => by
    obtain ⟨a, b, ea, eb, q⟩ := q9
    obtain ⟨t, rfl⟩ := er_int (eu.trans ea)
    obtain ⟨t', rfl⟩ := er_int (eu'.trans eb)
    refine max_two_ints hh fun h' tk k => ⟨H2, F.keeps k, ?_⟩
    by_cases z : b > a
    · rw [if_pos z]; rw [if_pos z] at q; exact q
    · rw [if_neg z]; rw [if_neg z] at q; exact q) (by decide) hk hx hg hbb (by decide) he he'

theorem EV.listOf {p pos : Pos} {e : Expr} {Q : Value → AH → Prop} (G : Gl c K) (hr : nsIn K mainGlobals (Str.ofString "list") = some none)
    (h : EV c A env (eval e env) H m (fun v H1 => ∃ l xs, v = Rf l ∧ H1 l = some (.list xs) ∧ xs.length ≤ 1000000 ∧ ∀ D, H1 D = none → Q (Rf D) (upd H1 D (.list xs))))
    (hk : autoParam (env.scope.kind = .function) autoRfl) (hx : autoParam (env.kindOf (Str.ofString "list") = some .globalImplicit) autoRfl) (hg : autoParam (env.globals = mainGlobals) autoRfl) (hbb : autoParam (env.builtins = builtinsNs) autoRfl)
    (he : autoParam (starEach [e] env = [(false, eval e env)]) autoRfl) : EV c A env (eval (.Call (.Name (Str.ofString "list") p) [e] [] pos) env) H m Q :=
  EV.callT1 G hr (id := "list") (by rfl) (h.mono fun v H1 q9 P s E u F eu => by
    obtain ⟨l, xs, e1, hl, hz, q⟩ := q9
    have := er_ref (eu.trans e1); subst this
    obtain ⟨vs, n, ho, e⟩ := F.isList hl
    have hsz := size_of e
    obtain ⟨z1, z2, z3, z4⟩ := F.newIt
    refine call_list_seq l (.inl rfl) ho rfl rfl (fun h' c' k hD => ?_) (by rw [hsz, sizeLine_eq]; (exact om9 hz hsz))
    exact ⟨_, (F.keeps (tk := s.toks) k).adopt (o := .list xs) hD ⟨vs, c', rfl, e⟩ z1 z3 z4 F.toRH.large, q _ z2⟩) (by decide) hk hx hg hbb (by decide) he
theorem EV.tupleOf {p pos : Pos} {e : Expr} {Q : Value → AH → Prop} (G : Gl c K) (hr : nsIn K mainGlobals (Str.ofString "tuple") = some none)
    (h : EV c A env (eval e env) H m (fun v H1 => ∃ l xs, v = Rf l ∧ H1 l = some (.tup xs) ∧ Q (Rf l) H1))
    (hk : autoParam (env.scope.kind = .function) autoRfl) (hx : autoParam (env.kindOf (Str.ofString "tuple") = some .globalImplicit) autoRfl) (hg : autoParam (env.globals = mainGlobals) autoRfl) (hbb : autoParam (env.builtins = builtinsNs) autoRfl)
    (he : autoParam (starEach [e] env = [(false, eval e env)]) autoRfl) : EV c A env (eval (.Call (.Name (Str.ofString "tuple") p) [e] [] pos) env) H m Q :=
  EV.callT1 G hr (id := "tuple") (by rfl) (h.mono fun v H1 q9 P s E u F eu => by
    obtain ⟨l, xs, e1, hl, q⟩ := q9
    have := er_ref (eu.trans e1); subst this
    obtain ⟨vs, ht, e⟩ := F.isTup hl
    exact call_tuple_same ht ⟨H1, F, q⟩) (by decide) hk hx hg hbb (by decide) he
theorem EV.intOf {p pos : Pos} {e : Expr} {Q : Value → AH → Prop} (G : Gl c K) (hr : nsIn K mainGlobals (Str.ofString "int") = some none)
    (h : EV c A env (eval e env) H m (fun v H1 => ∃ b, v = .bool b ∧ Q (I (if b then 1 else 0)) H1))
    (hk : autoParam (env.scope.kind = .function) autoRfl) (hx : autoParam (env.kindOf (Str.ofString "int") = some .globalImplicit) autoRfl) (hg : autoParam (env.globals = mainGlobals) autoRfl) (hbb : autoParam (env.builtins = builtinsNs) autoRfl)
    (he : autoParam (starEach [e] env = [(false, eval e env)]) autoRfl) : EV c A env (eval (.Call (.Name (Str.ofString "int") p) [e] [] pos) env) H m Q :=
  EV.callT1 G hr (id := "int") (by rfl) (h.mono fun v H1 q9 P s E u F eu => by
    obtain ⟨b, e1, q⟩ := q9
    have := er_bool (eu.trans e1); subst this
    exact call_int_bool ⟨H1, F.tok, q⟩) (by decide) hk hx hg hbb (by decide) he

/-! methods of built-in types -/
theorem EV.append {o e : Expr} {apos pos : Pos} {pl : Sem Bool} {Q : Value → AH → Prop}
    (h : EV c A env (eval o env) H m (fun ov H1 => AppP ov H1 fun l => EV c A env (eval e env) H1 m (fun v H2 => App2P l H2 fun ys => Q .none (upd H2 l (.list (ys ++ [v]))))))
    (he1 : autoParam (eval (.Call (.Attribute o (Str.ofString "append") apos) [e] [] pos) env = (do
      let ov ← eval o env
      standAt apos.atName
      let (f, first) ← holding [ov] (getMethod ov (Str.ofString "append") pl)
      callWith pos f first (backTo pos (starEach [e] env)) (backToKw pos (keywordEach [] env)))) autoRfl)
    (he : autoParam (starEach [e] env = [(false, eval e env)]) autoRfl) : EV c A env (eval (.Call (.Attribute o (Str.ofString "append") apos) [e] [] pos) env) H m Q := fun P s E F => by
  refine methodCall_KW (pl := pl) (wpAny_mono (h P s E F) (fun u s1 ⟨H1, F1, l, xs, e1, hl, h1⟩ => ?_) fun _ _ e => e) he1
  have := er_ref e1; subst this
  obtain ⟨vs, n, ho, _⟩ := F1.isList hl
  refine Calls.getMethod_list_append ho rfl rfl ?_
  refine callWith_B (rest := []) (first := [.ref l]) ?_ (by rw [he]; rfl) rfl
  rw [he]
  refine spliced_cons (wpAny_mono (h1 P s1 E F1) (fun u s2 ⟨H2, F2, ys, hy, hz, q⟩ => spliced_nil ?_) fun _ _ e => e)
  obtain ⟨ws, n2, ho2, e2⟩ := F2.isList hy
  have hsz := size_of e2
  refine wpAny_list_append_plain (hsz := by rw [hsz, sizeLine_eq]; (exact om9 hz hsz)) ⟨n2, ho2⟩ fun h' ⟨n3, hl3⟩ hs => ⟨_, F2.change (o' := .list (ys ++ [er u])) (tk := s2.toks) hy hs hl3 ⟨ws.push u, n3, rfl, by rw [Array.toList_push, List.map_append, e2]; rfl⟩, q⟩

theorem EV.dictGet {o e1 e2 : Expr} {apos pos : Pos} {pl : Sem Bool} {Q : Value → AH → Prop}
    (h : EV c A env (eval o env) H m (fun ov H1 => ∃ d kvs, ov = Rf d ∧ H1 d = some (.idict kvs) ∧ EV c A env (eval e1 env) H1 m (fun kv H2 => EV c A env (eval e2 env) H2 m (fun dv H3 => ∃ k, kv = I k ∧ H3 d = some (.idict kvs) ∧ Q ((valueAt kvs k).getD dv) H3))))
    (he1 : autoParam (eval (.Call (.Attribute o (Str.ofString "get") apos) [e1, e2] [] pos) env = (do
      let ov ← eval o env
      standAt apos.atName
      let (f, first) ← holding [ov] (getMethod ov (Str.ofString "get") pl)
      callWith pos f first (backTo pos (starEach [e1, e2] env)) (backToKw pos (keywordEach [] env)))) autoRfl)
    (he : autoParam (starEach [e1, e2] env = [(false, eval e1 env), (false, eval e2 env)]) autoRfl) : EV c A env (eval (.Call (.Attribute o (Str.ofString "get") apos) [e1, e2] [] pos) env) H m Q := fun P s E F => by
  refine methodCall_KW (pl := pl) (wpAny_mono (h P s E F) (fun u s1 ⟨H1, F1, d, kvs, ed, hd, h1⟩ => ?_) fun _ _ e => e) he1
  have := er_ref ed; subst this
  obtain ⟨kvs', hD, e⟩ := F1.isIDict hd
  refine getMethod_builtin hD.typeIs PySem.F.plainAttrs_dict PySem.F.slot_dict_get PySem.F.type_dict_get hD.mapOf.noDict ?_
  rw [he]
  refine wpAny_dict_get2 (knd := intKind c.prog c.w) (F1.above hd) (wpAny_mono (h1 P s1 E F1) (fun key s2 ⟨H2, F2, h2⟩ => wpAny_mono (h2 P s2 E F2) (fun dv s3 ⟨H3, F3, k, ek, hd3, q⟩ => ?_) fun _ _ e => e) fun _ _ e => e)
  obtain ⟨t, rfl⟩ := er_int ek
  obtain ⟨kvs3, hD3, e3⟩ := F3.isIDict hd3
  refine ⟨k, _, isInt_self k t, hD3.mapOf, H3, F3.tok, ?_⟩
  rw [← e3, valueAt_map] at q
  cases z : valueAt kvs3 k with
  | none => rw [z] at q; exact q
  | some w => rw [z] at q; exact q

theorem EV.index {o e : Expr} {apos pos : Pos} {pl : Sem Bool} {Q : Value → AH → Prop}
    (h : EV c A env (eval o env) H m (fun ov H1 => ∃ (l : Addr) (ns : List Int), ov = Rf l ∧ H1 l = some (.list (ns.map I)) ∧ EV c A env (eval e env) H1 m (fun v H2 => ∃ k, v = I k ∧ H2 l = some (.list (ns.map I)) ∧ k ∈ ns ∧ PyData.layable0 (.list (ns.map .int)) = true ∧ Q (I (ns.idxOf k : Nat)) H2)))
    (he1 : autoParam (eval (.Call (.Attribute o (Str.ofString "index") apos) [e] [] pos) env = (do
      let ov ← eval o env
      standAt apos.atName
      let (f, first) ← holding [ov] (getMethod ov (Str.ofString "index") pl)
      callWith pos f first (backTo pos (starEach [e] env)) (backToKw pos (keywordEach [] env)))) autoRfl)
    (he : autoParam (starEach [e] env = [(false, eval e env)]) autoRfl) : EV c A env (eval (.Call (.Attribute o (Str.ofString "index") apos) [e] [] pos) env) H m Q := fun P s E F => by
  refine methodCall_KW (pl := pl) (wpAny_mono (h P s E F) (fun u s1 ⟨H1, F1, l, ns, e1, hl, h1⟩ => ?_) fun _ _ e => e) he1
  have := er_ref e1; subst this
  obtain ⟨vs, n, ho, _⟩ := F1.isList hl
  refine getMethod_builtin (T := "list") ⟨_, ho, rfl⟩ PySem.F.plainAttrs_list PySem.F.slot_list_index PySem.F.type_list_index (fun a ea => by injection ea with ea; subst ea; exact ⟨_, ho, rfl⟩) ?_
  refine callWith_B (rest := []) (first := [.ref l]) ?_ (by rw [he]; rfl) rfl
  rw [he]
  refine spliced_cons (wpAny_mono (h1 P s1 E F1) (fun u s2 ⟨H2, F2, k, ek, hl2, hk, hlay, q⟩ => spliced_nil ?_) fun _ _ e => e)
  obtain ⟨t, rfl⟩ := er_int ek
  obtain ⟨ws, hL, e2⟩ := F2.isL hl2
  exact index_list_ints (vs := ws.toList) (by simpa using hL) (ints_of e2) hlay hk ⟨H2, F2.tok, q⟩

/-! comparisons -/
theorem CO.eqS {x y : Str} : CO c A env H m .Eq (S x) (S y) (x == y) := fun P s E Q u v F ha hb k => by
  obtain ⟨t, rfl⟩ := er_str ha; obtain ⟨t', rfl⟩ := er_str hb; exact PyProof.Rows.eq_str (k _ F)
theorem CO.inL {l : Addr} {ns : List Int} {k : Int} (hl : H l = some (.list (ns.map I))) : CO c A env H m .In (I k) (Rf l) (ns.any (· == k)) := fun P s E Q u v F ha hb q => by
  obtain ⟨t, rfl⟩ := er_int ha; have := er_ref hb; subst this
  obtain ⟨vs, hL, e⟩ := F.isL hl
  exact in_list_ints (vs := vs.toList) (by simpa using hL) (ints_of e) (q _ F)
theorem CO.notInD {d : Addr} {kvs : List (Int × Value)} {k : Int} (hd : H d = some (.idict kvs)) : CO c A env H m .NotIn (I k) (Rf d) (!(valueAt kvs k).isSome) := fun P s E Q u v F ha hb q => by
  obtain ⟨t, rfl⟩ := er_int ha; have := er_ref hb; subst this
  obtain ⟨kvs', hD, e⟩ := F.isIDict hd
  refine wpAny_notIn_of (isInt_self k t) (F.above hd) hD.mapOf ?_
  rw [← e, valueAt_map, Option.isSome_map] at q
  exact q _ F.tok
theorem CO.neL {a b : Addr} {ns ms : List Int} (hu : A.units + 64 < cLine) (ha' : H a = some (.list (ns.map I))) (hb' : H b = some (.list (ms.map I))) : CO c A env H m .NotEq (Rf a) (Rf b) (!decide (ns = ms)) := fun P s E Q u v F ha hb q => by
  have := er_ref ha; subst this; have := er_ref hb; subst this
  obtain ⟨vs, hL, e⟩ := F.isL ha'
  obtain ⟨ws, hL2, e2⟩ := F.isL hb'
  exact ne_intsK (vs := vs.toList) (us := ws.toList) (by simpa using hL) (ints_of e) (by simpa using hL2) (ints_of e2) hu (q _ F)
end
end Mine

namespace Mine
open PySem PySem.W PySem.Calls PyProof.Rows

theorem itemsAre_of {prog : Program} {w : World} {vs : List Value} {ks : List TK} (e : vs.map er = ks.map TK.val) : ItemsAre (tkKind prog w) ks vs := by
  induction vs generalizing ks with
  | nil => cases ks with
    | nil => exact .nil
    | cons n r => cases e
  | cons v r ih => cases ks with
    | nil => cases e
    | cons n q =>
      rw [List.map_cons, List.map_cons] at e
      obtain ⟨e1, e2⟩ := List.cons.inj e
      exact .cons (TK.is_of_er e1) (ih e2)

noncomputable def keyOK (H : AH) (xs : List (List TK × Addr × Value)) : Prop := ∀ p ∈ xs, H p.2.1 = some (.tup (p.1.map TK.val))
noncomputable def erT (p : List TK × Addr × Value) : List TK × Addr × Value := (p.1, p.2.1, er p.2.2)
theorem atKey_map {xs : List (List TK × Addr × Value)} {k : List TK} : atKey (xs.map erT) k = (atKey xs k).map fun p => (p.1, er p.2) := by
  unfold atKey
  induction xs with
  | nil => rfl
  | cons p r ih =>
    rw [List.map_cons, List.find?_cons, List.find?_cons]
    by_cases q : p.1 = k
    · simp [q, erT]
    · have : (erT p).1 = p.1 := rfl
      simp only [this, decide_eq_false q]; exact ih
theorem storedH_map {xs : List (List TK × Addr × Value)} {k : List TK} {a : Addr} {v : Value} : (storedH xs k a v).map erT = storedH (xs.map erT) k a (er v) := by
  unfold storedH
  rw [atKey_map, Option.isSome_map]
  split
  · rw [List.map_map, List.map_map]
    refine List.map_congr_left fun p _ => ?_
    by_cases q : p.1 = k <;> simp [putAt, erT, q]
  · simp [erT]

section
variable {c : Cx} {P : PH} {H : AH} {env : Env} {m : Ms} {s : Shared} {A : Around} {K : Frag}

theorem RF.isTD {d : Addr} {xs : List (List TK × Addr × Value)} (F : RF c P H env m s) (h : H d = some (.tdict xs)) (hk : keyOK H xs) :
    ∃ xs', s.heap.DictOfH (tupleKind (tkKind c.prog c.w)) d xs' ∧ xs'.map erT = xs := by
  obtain ⟨_, _, ro, ho, xs', es, ep, h1, h2, h3, h4, e⟩ := F.obj _ _ h
  refine ⟨xs', ⟨ro, es, ep, ho, h1, h2, h3, fun x hx => ?_, h4⟩, e⟩
  have hx' : erT x ∈ xs := by rw [← e]; exact List.mem_map_of_mem hx
  obtain ⟨_, _, rt, hrt, hc, vs, n, hd, e2⟩ := F.obj _ _ (hk _ hx')
  exact ⟨rt, vs, n, hrt, hc, hd, itemsAre_of e2⟩
theorem RF.isKey {a : Addr} {k : List TK} (F : RF c P H env m s) (h : H a = some (.tup (k.map TK.val))) : (tupleKind (tkKind c.prog c.w)).is s.heap k a := by
  obtain ⟨_, _, rt, hrt, hc, vs, n, hd, e2⟩ := F.obj _ _ h
  exact ⟨rt, vs, n, hrt, hc, hd, itemsAre_of e2⟩
theorem Rm.in1 {n : Nat} (h : Rm n A) : A.in1.units < cLine := by have := h.2.2; have e : cLine = 9900 := rfl; show A.units + 1 < cLine; (exact om29 this e)

theorem CO.notInT {n : Nat} {d a : Addr} {xs : List (List TK × Addr × Value)} {k : List TK} (hA : Rm n A) (hd : H d = some (.tdict xs)) (hk : keyOK H xs) (ha : H a = some (.tup (k.map TK.val))) :
    CO c A env H m .NotIn (Rf a) (Rf d) (!(atKey xs k).isSome) := fun P s E Q u v F eu ev q => by
  have := er_ref eu; subst this; have := er_ref ev; subst this
  obtain ⟨xs', hD, e⟩ := F.isTD hd hk
  refine wpAny_notIn_heap (knd := tupleKind (tkKind c.prog c.w)) hA.in1 (F.isKey ha) (F.above hd) hD ?_
  rw [← e, atKey_map, Option.isSome_map] at q
  exact q _ F.tok
theorem EV.itemT {n : Nat} {value slice : Expr} {pos : Pos} {Q : Value → AH → Prop} (hA : Rm n A)
    (h : EV c A env (eval value env) H m (fun o H1 => EV c A env (eval slice env) H1 m (fun i H2 => ∃ d a xs k p, o = Rf d ∧ i = Rf a ∧ H2 d = some (.tdict xs) ∧ keyOK H2 xs ∧ H2 a = some (.tup (k.map TK.val)) ∧ atKey xs k = some p ∧ Q p.2 H2)))
    (hs : autoParam (∀ o i, subscripted slice false o i = operate [o, i] (getItem o i)) autoRfl2) : EV c A env (eval (.Subscript value slice pos) env) H m Q :=
  fun P s E F => Subscript_ (wpAny_mono (h P s E F) (fun o s1 ⟨H1, F1, h1⟩ => wpAny_mono (h1 P s1 E F1) (fun i s2 q9 => by
    obtain ⟨H2, F2, d, a, xs, k, p, e1, e2, hd, hk, ha, hp, q⟩ := q9
    have := er_ref e1; subst this; have := er_ref e2; subst this
    obtain ⟨xs', hD, e⟩ := F2.isTD hd hk
    rw [← e, atKey_map] at hp
    obtain ⟨p', hp', ep⟩ := Option.map_eq_some_iff.mp hp
    refine tail_any hD.typeIs slot_dict_getitem.lookup (wpAny_getItem_heap hA.in1 (F2.isKey ha) hD hp' ⟨H2, F2.tok, ?_⟩) (hs _ _)
    rw [← ep] at q; exact q) fun _ _ e => e) fun _ _ e => e)
theorem EX.setitemT {n : Nat} {o i value : Expr} {tpos pos : Pos} {Q : Flow → AH → Ms → Prop} (hA : Rm n A)
    (h : EV c A env (eval value env) H m (fun v H1 => EV c A env (eval o env) H1 m (fun ov H2 => EV c A env (eval i env) H2 m (fun iv H3 => ∃ d a xs k, ov = Rf d ∧ iv = Rf a ∧ H3 d = some (.tdict xs) ∧ keyOK H3 xs ∧ H3 a = some (.tup (k.map TK.val)) ∧ xs.length ≤ 1000000 ∧
      Q .next (upd H3 d (.tdict (storedH xs k a v))) m))))
    (hs : autoParam (swapsWith value (some (.Subscript o i tpos)) pos.line env = pure false) autoRfl) : EX c A env (exec (.Assign [.Subscript o i tpos] value pos) env) H m Q :=
  fun P s E F => wpAny_Assign_Subscript (wpAny_mono (h P s E F) (fun u s1 ⟨H1, F1, h1⟩ => wpAny_mono (h1 P s1 E F1) (fun ov s2 ⟨H2, F2, h2⟩ => wpAny_mono (h2 P s2 E F2) (fun iv s3 q9 => by
    obtain ⟨H3, F3, d, a, xs, k, e1, e2, hd, hk, ha, hz, q⟩ := q9
    have := er_ref e1; subst this; have := er_ref e2; subst this
    obtain ⟨xs', hD, e⟩ := F3.isTD hd hk
    have hlen : xs'.length = xs.length := by rw [← e]; simp
    refine wpAny_setItem_heap hA.in1 (F3.isKey ha) hD (fun h' hD' hs' => ?_) (by rw [hlen, sizeLine_eq]; (exact om9 hz hlen))
    obtain ⟨ro, es, ep, hro, h1, h2, h3, _, h4⟩ := hD'
    have hm : Mt c ro (.tdict (storedH xs k a (er u))) := ⟨_, es, ep, h1, h2, h3, h4, by rw [← e]; exact storedH_map⟩
    exact ⟨_, m, F3.change hd hs' hro hm, q⟩) fun _ _ e => e) fun _ _ e => e) fun _ _ e => e) hs

/-! targets -/
noncomputable def ASL (c : Cx) (A : Around) (env : Env) (ts : List Expr) (vs : List Value) (H : AH) (m : Ms) (Q : AH → Ms → Prop) : Prop :=
  ∀ P s E us, RF c P H env m s → us.map er = vs → wpAny (Mo c) A (assignInOrder ((assignEach ts env).map (·.2)) us) (fun _ s' => ∃ H' m', RF c P H' env m' s' ∧ Q H' m') E s
theorem ASL.nil {Q : AH → Ms → Prop} (q : Q H m) : ASL c A env [] [] H m Q := fun P s E us F e => by
  show wpAny _ _ (pure ()) _ _ _
  exact wpAny_pure ⟨H, m, F, q⟩
theorem ASL.cons {t : Expr} {ts : List Expr} {v : Value} {vs : List Value} {Q : AH → Ms → Prop} (h : AS c A env (assign t env) v H m (fun H1 m1 => ASL c A env ts vs H1 m1 Q))
    (he : autoParam (assignEach (t :: ts) env = (false, assign t env) :: assignEach ts env) autoRfl) : ASL c A env (t :: ts) (v :: vs) H m Q := fun P s E us F e => by
  cases us with
  | nil => cases e
  | cons u us =>
    rw [List.map_cons] at e
    obtain ⟨e1, e2⟩ := List.cons.inj e
    rw [he]
    show wpAny _ _ (do holding us (assign t env u); assignInOrder ((assignEach ts env).map (·.2)) us) _ _ _
    exact wpAny_bind (wpAny_holding (wpAny_mono (h P s E u F e1) (fun _ s1 ⟨H1, m1, F1, h1⟩ => h1 P s1 E us F1 e2) fun _ _ e => e))
theorem AS.tup {elts : List Expr} {k : Nat} {pos : Pos} {v : Value} {Q : AH → Ms → Prop} (hh : A.handled = none) (h : ∃ t vs, v = Rf t ∧ H t = some (.tup vs) ∧ elts.length = vs.length ∧ ASL c A env elts vs H m Q)
    (hn : autoParam ((assignEach elts env).length = elts.length) autoRfl) (hst : autoParam ((assignEach elts env).findIdx? (·.1) = none) autoRfl) : AS c A env (assign (.Tuple elts k pos) env) v H m Q := fun P s E u F e => by
  obtain ⟨t, vs, rfl, ht, hz, h⟩ := h
  have := er_ref e; subst this
  obtain ⟨us, hT, e2⟩ := F.isTup ht
  have hsz : us.size = vs.length := by rw [← e2]; simp
  refine wpAny_assign_Tuple hh hT (by rw [hn, hsz, hz]) hst fun h' he' => ?_
  have F1 : RF c P H env m { s with heap := h', toks := s.toks } := by
    obtain ⟨z1, z2, z3, z4⟩ := F.newIt
    exact F.but z1 z2 z3 z4 he'
  exact h P _ E _ F1 e2
theorem EX.setT {elts : List Expr} {k : Nat} {tpos pos : Pos} {value : Expr} {Q : Flow → AH → Ms → Prop} (h : EV c A env (eval value env) H m (fun v H1 => AS c A env (assign (.Tuple elts k tpos) env) v H1 m (fun H2 m2 => Q .next H2 m2)))
    (hs : autoParam (swapsWithSole [.Tuple elts k tpos] value pos.line env = pure false) autoRfl)
    (hw : autoParam (swappedStores [.Tuple elts k tpos] value env = pure none) autoRfl) : EX c A env (exec (.Assign [.Tuple elts k tpos] value pos) env) H m Q := fun P s E F =>
  Assign_Tuple (wpAny_mono (h P s E F) (fun u s1 ⟨H1, F1, h1⟩ => wpAny_mono (h1 P s1 E u F1 rfl) (fun _ s2 ⟨H2, m2, F2, q⟩ => ⟨H2, m2, F2, q⟩) fun _ _ e => e) fun _ _ e => e) hs hw

/-! dict displays -/
noncomputable def er2 (p : Value × Value) : Value × Value := (er p.1, er p.2)
noncomputable def EPs (c : Cx) (A : Around) (env : Env) (pos : Pos) (ks : List (Option Expr)) (vs : List Expr) (H : AH) (m : Ms) (Q : List (Value × Value) → AH → Prop) : Prop :=
  ∀ P s E, RF c P H env m s → wpAny (Mo c) A (evalPairs (pairTrees ks vs env pos)) (fun us s' => ∃ H', RF c P H' env m s' ∧ Q (us.map er2) H') E s
theorem EPs.nil {pos : Pos} {Q : List (Value × Value) → AH → Prop} (q : Q [] H) : EPs c A env pos [] [] H m Q := fun P s E F => pairTrees_nil_walk ⟨H, F, q⟩
theorem EPs.cons {pos : Pos} {k v : Expr} {ks : List (Option Expr)} {vs : List Expr} {Q : List (Value × Value) → AH → Prop}
    (h : EV c A env (eval k env) H m (fun kv H1 => EV c A env (eval v env) H1 m (fun vv H2 => EPs c A env pos ks vs H2 m (fun r H3 => Q ((kv, vv) :: r) H3)))) : EPs c A env pos (some k :: ks) (v :: vs) H m Q := fun P s E F =>
  pairTrees_cons_walk (wpAny_mono (h P s E F) (fun u s1 ⟨H1, F1, h1⟩ => wpAny_mono (h1 P s1 E F1) (fun u' s2 ⟨H2, F2, h2⟩ => wpAny_mono (h2 P s2 E F2) (fun us s3 ⟨H3, F3, q⟩ => ⟨H3, F3, q⟩) fun _ _ e => e) fun _ _ e => e) fun _ _ e => e)
theorem intKeyPairs_of {us : List (Value × Value)} {kvs : List (Int × Value)} (e : us.map er2 = kvs.map fun p => (I p.1, p.2)) : allIntKeys us = true ∧ (intKeyPairs us).map (fun p => (p.1, er p.2)) = kvs := by
  induction us generalizing kvs with
  | nil => cases kvs with
    | nil => exact ⟨rfl, rfl⟩
    | cons p r => cases e
  | cons u r ih => cases kvs with
    | nil => cases e
    | cons p q =>
      obtain ⟨uk, uv⟩ := u
      rw [List.map_cons, List.map_cons] at e
      obtain ⟨e1, e2⟩ := List.cons.inj e
      obtain ⟨e3, e4⟩ := Prod.mk.inj e1
      obtain ⟨t, rfl⟩ := er_int e3
      obtain ⟨h1, h2⟩ := ih e2
      exact ⟨h1, by show (p.1, er uv) :: _ = _; rw [h2, show er uv = p.2 from e4]⟩
theorem strPairs_of {us : List (Value × Value)} {kvs : List (Str × Value)} (e : us.map er2 = kvs.map fun p => (S p.1, p.2)) : allStrKeys us = true ∧ (strPairs us).map (fun p => (p.1, er p.2)) = kvs := by
  induction us generalizing kvs with
  | nil => cases kvs with
    | nil => exact ⟨rfl, rfl⟩
    | cons p r => cases e
  | cons u r ih => cases kvs with
    | nil => cases e
    | cons p q =>
      obtain ⟨uk, uv⟩ := u
      rw [List.map_cons, List.map_cons] at e
      obtain ⟨e1, e2⟩ := List.cons.inj e
      obtain ⟨e3, e4⟩ := Prod.mk.inj e1
      obtain ⟨t, rfl⟩ := er_str e3
      obtain ⟨h1, h2⟩ := ih e2
      exact ⟨h1, by show (p.1, er uv) :: _ = _; rw [h2, show er uv = p.2 from e4]⟩

theorem map_fst_er {α : Type} (l : List (α × Value)) : (l.map fun p => (p.1, er p.2)).map (·.1) = l.map (·.1) := by rw [List.map_map]; rfl
theorem EV.dictI {ks : List (Option Expr)} {vs : List Expr} {pos : Pos} {Q : Value → AH → Prop} (hall : ks.all (·.isSome) = true) (hl : ks.length = vs.length) (h0 : ks ≠ []) (hlen : ks.length ≤ 15)
    (h : EPs c A env pos ks vs H m (fun us H1 => ∃ kvs : List (Int × Value), us = kvs.map (fun p => (I p.1, p.2)) ∧ (kvs.map (·.1)).Nodup ∧ ∀ a, H1 a = none → Q (Rf a) (upd H1 a (.idict kvs)))) : EV c A env (eval (.Dict ks vs pos) env) H m Q := fun P s E F => by
  refine wpAny_Dict_walk (knd := intKind c.prog c.w) hall hl h0 hlen ?_
  obtain ⟨z1, z2, z3, z4⟩ := F.newIt
  have F1 : RF c P H env m { s with heap := s.heap.push { cls := .type "dict", data := .dict #[] }, toks := s.toks } := F.push _
  have hD : (s.heap.push { cls := .type "dict", data := .dict #[] }).get? s.heap.objs.size = some { cls := .type "dict", data := .dict #[] } := Heap.get?_push_size _ rfl
  have F2 := F1.guard hD z1 z2 z3 z4
  refine wpAny_mono (h _ _ E F2) (fun us s1 ⟨H1, F3, kvs, e, hn, q⟩ => ?_) fun _ _ e => e
  obtain ⟨F4, hD4, hH4, _⟩ := F3.unguard z1 (F.toRH.top_none z1)
  obtain ⟨a1, a2⟩ := intKeyPairs_of e
  have hnew : s1.heap.DictOf (intKind c.prog c.w) s.heap.objs.size [] := by
    have := Heap.DictOf.new (knd := intKind c.prog c.w) s.heap
    obtain ⟨o, ho, hi⟩ := Heap.dictOf_iff.mp this
    rw [hD] at ho; cases ho
    exact Heap.dictOf_iff.mpr ⟨_, hD4, hi⟩
  refine display_done_int (P := fun h' => ∃ H', RF c P H' env m { s1 with heap := h', toks := s1.toks + us.length } ∧ Q (er (.ref s.heap.objs.size)) H') a1 (by rw [← map_fst_er, a2]; exact hn) hnew fun h' hD' hs' => ?_
  obtain ⟨ro, hro, hdo⟩ := Heap.dictOf_iff.mp hD'
  have F5 : RF c P H1 env m { s1 with heap := h', toks := s1.toks + us.length } := F4.but z1 hH4 z3 z4 hs'.extBut
  exact ⟨_, F5.adopt (o := .idict kvs) hro ⟨_, hdo, a2⟩ z1 z3 z4 F.toRH.large, q _ hH4⟩
theorem EV.dictS {ks : List (Option Expr)} {vs : List Expr} {pos : Pos} {Q : Value → AH → Prop} (hall : ks.all (·.isSome) = true) (hl : ks.length = vs.length) (h0 : ks ≠ []) (hlen : ks.length ≤ 15)
    (h : EPs c A env pos ks vs H m (fun us H1 => ∃ kvs : List (Str × Value), us = kvs.map (fun p => (S p.1, p.2)) ∧ (kvs.map (·.1)).Nodup ∧ ∀ a, H1 a = none → Q (Rf a) (upd H1 a (.sdict kvs)))) : EV c A env (eval (.Dict ks vs pos) env) H m Q := fun P s E F => by
  refine wpAny_Dict_walk (knd := strKind c.prog c.w) hall hl h0 hlen ?_
  obtain ⟨z1, z2, z3, z4⟩ := F.newIt
  have F1 : RF c P H env m { s with heap := s.heap.push { cls := .type "dict", data := .dict #[] }, toks := s.toks } := F.push _
  have hD : (s.heap.push { cls := .type "dict", data := .dict #[] }).get? s.heap.objs.size = some { cls := .type "dict", data := .dict #[] } := Heap.get?_push_size _ rfl
  have F2 := F1.guard hD z1 z2 z3 z4
  refine wpAny_mono (h _ _ E F2) (fun us s1 ⟨H1, F3, kvs, e, hn, q⟩ => ?_) fun _ _ e => e
  obtain ⟨F4, hD4, hH4, _⟩ := F3.unguard z1 (F.toRH.top_none z1)
  obtain ⟨a1, a2⟩ := strPairs_of e
  have hnew : s1.heap.DictOf (strKind c.prog c.w) s.heap.objs.size [] := by
    have := Heap.DictOf.new (knd := strKind c.prog c.w) s.heap
    obtain ⟨o, ho, hi⟩ := Heap.dictOf_iff.mp this
    rw [hD] at ho; cases ho
    exact Heap.dictOf_iff.mpr ⟨_, hD4, hi⟩
  refine display_done_str (P := fun h' => ∃ H', RF c P H' env m { s1 with heap := h', toks := s1.toks + us.length } ∧ Q (er (.ref s.heap.objs.size)) H') a1 (by rw [← map_fst_er, a2]; exact hn) hnew fun h' hD' hs' => ?_
  obtain ⟨ro, hro, hdo⟩ := Heap.dictOf_iff.mp hD'
  have F5 : RF c P H1 env m { s1 with heap := h', toks := s1.toks + us.length } := F4.but z1 hH4 z3 z4 hs'.extBut
  exact ⟨_, F5.adopt (o := .sdict kvs) hro ⟨_, hdo, a2⟩ z1 z3 z4 F.toRH.large, q _ hH4⟩
theorem EV.dict0 {pos : Pos} {Q : Value → AH → Prop} (h : ∀ a, H a = none → (Q (Rf a) (upd H a (.idict []))) ∨ Q (Rf a) (upd H a (.tdict []))) : EV c A env (eval (.Dict [] [] pos) env) H m Q := fun P s E F => by
  refine wpAny_Dict_empty ?_
  rcases h _ F.toRH.fresh.2 with q | q
  · refine ⟨_, F.alloc (o := .idict []) (tk := s.toks) ?_, q⟩
    have := Heap.DictOf.new (knd := intKind c.prog c.w) s.heap
    obtain ⟨o, ho, hi⟩ := Heap.dictOf_iff.mp this
    rw [Heap.get?_push_size _ rfl] at ho; cases ho
    exact ⟨_, hi, rfl⟩
  · refine ⟨_, F.alloc (o := .tdict []) (tk := s.toks) ?_, q⟩
    exact ⟨[], #[], _, ⟨rfl, rfl, rfl⟩, rfl, rfl, .nil, rfl⟩
noncomputable def atS (kvs : List (Str × Value)) (k : Str) : Option Value := valueAt kvs k
theorem valueAtS_map {kvs : List (Str × Value)} {k : Str} : valueAt (kvs.map fun p => (p.1, er p.2)) k = (valueAt kvs k).map er := by
  unfold valueAt
  induction kvs with
  | nil => rfl
  | cons p r ih =>
    rw [List.map_cons, List.find?_cons, List.find?_cons]
    by_cases q : p.1 = k
    · simp [q]
    · simp only [decide_eq_false q]; exact ih
theorem isStr_self (k : Str) (t : Tok) : (strKind c.prog c.w).is k (.str k t) = true := by simp [PySem.strKind, Value.isStrOf]
theorem EV.itemS {value slice : Expr} {pos : Pos} {Q : Value → AH → Prop}
    (h : EV c A env (eval value env) H m (fun o H1 => EV c A env (eval slice env) H1 m (fun i H2 => ∃ d kvs k v, o = Rf d ∧ i = S k ∧ H2 d = some (.sdict kvs) ∧ valueAt kvs k = some v ∧ Q v H2)))
    (hs : autoParam (∀ o i, subscripted slice false o i = operate [o, i] (getItem o i)) autoRfl2) : EV c A env (eval (.Subscript value slice pos) env) H m Q :=
  fun P s E F => Subscript_ (wpAny_mono (h P s E F) (fun o s1 ⟨H1, F1, h1⟩ => wpAny_mono (h1 P s1 E F1) (fun i s2 q9 => by
    obtain ⟨H2, F2, d, kvs, k, v, e1, e2, hd, hv, q⟩ := q9
    have := er_ref e1; subst this
    obtain ⟨t, rfl⟩ := er_str e2
    obtain ⟨_, _, ro, ho, kvs', hdo, e⟩ := F2.obj _ _ hd
    have hD : s2.heap.DictOf (strKind c.prog c.w) d kvs' := Heap.dictOf_iff.mpr ⟨ro, ho, hdo⟩
    rw [← e, valueAtS_map] at hv
    obtain ⟨u, hu, eu⟩ := Option.map_eq_some_iff.mp hv
    exact tail_any hD.typeIs slot_dict_getitem.lookup (wpAny_getItem_of (isStr_self k t) hD.mapOf hu ⟨H2, F2.tok, eu ▸ q⟩) (hs _ _)) fun _ _ e => e) fun _ _ e => e)

/-! the rest -/
theorem RF.load {x : Str} {v : Value} {E : Value → Shared → Prop} {Q : Value → Shared → Prop} (F : RF c P H env m s) (hx : m x = some v) (hk : env.scope.kind = .function) (q : ∀ u, er u = v → Q u s) : wpAny (Mo c) A (loadName env x) Q E s := by
  obtain ⟨nm, hn, hb⟩ := F.loc
  rcases hb x v hx with ⟨l, u, hu, e⟩ | ⟨l, k, u, hl, hc, e⟩
  · exact wpAny_loadName_local hk l hn hu (q u e)
  · exact wpAny_loadName_cell hk l hl hc (q u e)
theorem EX.augsub {x : Str} {px pos : Pos} {value : Expr} {i : Int} {Q : Flow → AH → Ms → Prop} (hx : m x = some (I i))
    (h : EV c A env (eval value env) H m (fun v H1 => ∃ j, v = I j ∧ Q .next H1 (mset m x (I (i - j))))) (st : autoParam (stOk env x = true) autoRfl) (hk : autoParam (env.scope.kind = .function) autoRfl) : EX c A env (exec (.AugAssign (.Name x px) .Sub value pos) env) H m Q := fun P s E F =>
  wpAny_AugAssign_Name (F.load hx hk fun u eu => wpAny_mono (h P s E F) (fun v s1 q9 => by
    obtain ⟨H1, F1, j, ej, q⟩ := q9
    obtain ⟨t, rfl⟩ := er_int eu; obtain ⟨t', rfl⟩ := er_int ej
    exact PyProof.Rows.isub_int ((F1.tok (tk := s1.toks + 1)).bind st fun s' F' => ⟨H1, _, F', q⟩)) fun _ _ e => e)
end
end Mine

namespace Mine
open PySem PySem.W PySem.Calls PyProof.Rows

theorem wpAny_callRef {M : Model} {A : Around} {f : Value} {us : List Value} {E Q : Value → Shared → Prop} {s : Shared}
    (h : codeAny M A (.call f ⟨us, []⟩) (fun r s' => match r with | .ok (.ret v) => Q v s' | .ok _ => False | .error e => E e s') s) : wpAny M A (PySem.call f us) Q E s :=
  wpAny_call (codeAny_mono h fun r s' z => by
    rcases r with e | (v | _ | _ | _) <;> first | exact z | exact z.elim)

section
variable {c : Cx} {P : PH} {H : AH} {env : Env} {m : Ms} {s : Shared} {A : Around} {K : Frag}

theorem EV.make {x : Str} {C fI : Addr} {n : Nat} {p pos : Pos} {e : Expr} {Q : Value → AH → Prop} (G : Gl c K) (hx : nsIn K mainGlobals x = some (some (.ref C))) (hm : makesIn K C = true)
    (hi : findIn K (.ref C) "__init__" = some (some (.ref fI))) (hf : typeIn K (.ref fI) = some (.type "function")) (hk : keepIn K (.ref C) = true) (hA : Rm (n + 1) A)
    (h : EV c A env (eval e env) H m (fun v H1 => ∀ x d, H1 x = none → H1 d = none → d < x → FN c n (.ref fI) [Rf x, v] (upd (upd H1 d (.ns [])) x (.inst C d)) (fun r H2 => r = .none ∧ Q (Rf x) H2)))
    (hkd : autoParam (env.scope.kind = .function) autoRfl) (hki : autoParam (env.kindOf x = some .globalImplicit) autoRfl) (hg : autoParam (env.globals = mainGlobals) autoRfl) (hd : autoParam ((x == ("__debug__" : Str)) = false) autoDec)
    (he : autoParam (starEach [e] env = [(false, eval e env)]) autoRfl) :
    EV c A env (eval (.Call (.Name x p) [e] [] pos) env) H m Q := fun P s E F => by
  obtain ⟨mg, g⟩ := G.g
  have hv := mg_of G.k g hx
  refine wpAny_Call_NameR (Name_function_global hkd hki (loadGlobal_global (hg ▸ g.keeps F.toRH.kept) hv ?_) hd)
  refine callWith_K (rest := []) (h₀ := s.heap) (F.toRH.inK G) hk ?_ (by rw [he]; rfl) rfl
  rw [he]
  refine spliced_cons (wpAny_mono (h P s E F) (fun u s1 ⟨H1, F1, h1⟩ => spliced_nil ⟨F1.toRH.inK G, ?_⟩) fun _ _ e => e)
  obtain ⟨P', FH, _, _, _, _, back⟩ := F1.enter
  obtain ⟨hh, gg, d, t, os⟩ := s1
  refine wpAny_callRef (us := [u]) (make_core (makes_of (F1.toRH.inK G) hm) (looks_findIn (F1.toRH.inK G) hi) (fun self => bind_fn (F1.toRH.inK G) self hf) (.inl rfl) ?_)
  have FA := (FH.alloc (ro := emptyDict) (o := .ns []) ⟨[], 0, rfl, (fun _ h => nomatch h), rfl⟩ (tk := t)).alloc (ro := instObj C hh.objs.size) (o := .inst C hh.objs.size) ⟨_, rfl⟩ (tk := t)
  have hfr := FH.fresh.2
  have hfr2 : H1 (hh.objs.size + 1) = none := by
    cases q : H1 (hh.objs.size + 1) with
    | none => rfl
    | some o => obtain ⟨_, _, ro, h', _⟩ := FH.obj _ _ q; have := Heap.lt_size h'; exact absurd this (by show ¬ hh.objs.size + 1 < hh.objs.size; (exact om30))
  have e1 : (Heap.push hh emptyDict).objs.size = hh.objs.size + 1 := Heap.size_push ..
  have FA' : RH c P' (upd (upd H1 hh.objs.size (.ns [])) (hh.objs.size + 1) (.inst C hh.objs.size)) ⟨(hh.push emptyDict).push (instObj C hh.objs.size), gg, d, t, os⟩ := by
    have := FA
    rw [show (({ heap := hh.push emptyDict, gens := gg, drawn := d, toks := t, os := os } : Shared)).heap.objs.size = hh.objs.size + 1 from e1] at this
    exact this
  have hA' : Rm n (A.under (.builtin "type.__call__" ⟨[.ref C, u], []⟩)) := ⟨hA.1, by have := hA.2.1; show A.depth + 1 + 3 * n ≤ 900; (exact om11 this), by have := hA.2.2; show A.units + 1 + 30 * n ≤ 9000; (exact om31 this)⟩
  refine h1 (hh.objs.size + 1) hh.objs.size hfr2 hfr (Nat.lt_succ_self _) _ P' _ _ hA' FA' [.ref (hh.objs.size + 1), u] rfl fun u' s' H' F' ⟨er', q⟩ => ?_
  have := er_none er'; subst this
  exact ⟨rfl, H', back _ _ F', q⟩

/-- the body of a def with defaults (no cells) -/
theorem FN.defD {f T : Addr} {oc : Value} {od : Option Addr} {osl : Array (Option Value)} {name qual : Str} {params : Arguments} {body : List Stmt} {scope : Scope} {kV doc pm cdv ct : Value} {an : Option Addr} {oT : Obj} {items : Array Value} {nT : Nat}
    {names : List Str} {args : List Value} {dflt : List Value} {Q : Value → AH → Prop} {n : Nat} {H : AH} (G : Gl c K)
    (ho : K.lookup f = some ⟨oc, od, .func (fnOf name qual params body scope (.ref T) kV doc pm an cdv ct), osl⟩) (hcd : codeIn K cdv qual = true)
    (hT : K.lookup T = some oT) (hTd : oT.data = .seq items nT)
    (hlen : names.length = args.length + dflt.length)
    (hbind : ∀ as : List Value, as.length = args.length → ∃ k, bindArgs (fnOf name qual params body scope (.ref T) kV doc pm an cdv ct) ⟨as, []⟩ = seqItems? (.ref T) >>= k ∧ k (some items) = pure (names.zip (as ++ dflt)))
    (hcell : ∀ x ∈ scope.names, x.2 ≠ .cell) (hloc : ∀ x ∈ names, scope.names.lookup x = some .local)
    (h : ∀ A L, Rm n A → EX c A (callEnv (fnOf name qual params body scope (.ref T) kV doc pm an cdv ct) L f) (execs body (callEnv (fnOf name qual params body scope (.ref T) kV doc pm an cdv ct) L f)) H (bindA (names.zip (args ++ dflt.map er)) fun _ => none) (fun fl H' _ => Q (retv fl) H'))
    (hco : autoParam (scope.isCoroutine = false) autoRfl) (hgen : autoParam (scope.isGenerator = false) autoRfl) (hk : autoParam (scope.kind = .function) autoRfl) :
    FN c (n + 1) (.ref f) args H Q := by
  intro A P s R hR F as has k
  have hl : as.length = args.length := by rw [← has, List.length_map]
  have X := F.inK G
  obtain ⟨kk, hb1, hb2⟩ := hbind as hl
  have hbt : BindsTo s (fnOf name qual params body scope (.ref T) kV doc pm an cdv ct) ⟨as, []⟩ (names.zip (as ++ dflt)) := binds_K X rfl hT hTd hb1 hb2
  have hzip : (names.zip (as ++ dflt)).map (fun p => (p.1, er p.2)) = names.zip (args ++ dflt.map er) := by
    rw [← has, ← List.map_append]
    have : ∀ (ns : List Str) (l : List Value), (ns.zip l).map (fun p => (p.1, er p.2)) = ns.zip (l.map er) := by
      intro ns
      induction ns with
      | nil => intro l; rfl
      | cons n r ih => intro l; cases l with
        | nil => rfl
        | cons a l => simp [ih]
    exact this _ _
  generalize hfd : fnOf name qual params body scope (.ref T) kV doc pm an cdv ct = fd at *
  have e1 : fd.body = .stmts body := by rw [← hfd]
  have e3 : fd.scope = scope := by rw [← hfd]
  have e4 : fd.code = cdv := by rw [← hfd]
  have e5 : fd.qualname = qual := by rw [← hfd]
  have e6 : fd.closure = [] := by rw [← hfd]
  refine codeAny_call_def (fd := fd) (body := body) (by have := hR.2.1; show A.depth < 1000; (exact om10 this)) (X _ _ ho) rfl ((G.lim.keeps F.kept)) (by rw [e4, e5]; exact codeRec_of X hcd) e1 hbt
    (by rw [e3]; exact hcell) (fun x hx => by rw [e3]; exact hloc _ (List.of_mem_zip hx).1) (fun h₁ hns hkeep => ?_)
    (by rw [e3]; exact hco) (by rw [e3]; exact hgen) (by rw [e3]; exact hk)
  have hA' : Rm n (A.deeper (callEnv fd s.heap.objs.size f)) := ⟨hR.1, by have := hR.2.1; show A.depth + 1 + 3 * n ≤ 900; (exact om11 this), by have := hR.2.2; show A.units + 3 + 30 * n ≤ 9000; (exact om12 this)⟩
  have notin : ∀ b, s.heap.objs.size ≤ b → P b = none ∧ H b = none := fun b hb => by
    constructor
    · cases q : P b with
      | none => rfl
      | some o => exact absurd (Heap.lt_size (F.keep _ _ q)) (Nat.not_lt.mpr hb)
    · cases q : H b with
      | none => rfl
      | some o => obtain ⟨_, _, ro, h', _⟩ := F.obj _ _ q; exact absurd (Heap.lt_size h') (Nat.not_lt.mpr hb)
  have ecell : ∀ y, (callEnv fd s.heap.objs.size f).cells.lookup y = none := fun y => by
    show (fd.closure).lookup y = none
    rw [e6]; rfl
  have FF : RF c P H (callEnv fd s.heap.objs.size f) (bindA (names.zip (args ++ dflt.map er)) fun _ => none) { s with heap := h₁, toks := s.toks + (names.zip (as ++ dflt)).length } := by
    refine ⟨⟨F.top, fun b o e => hkeep _ _ (F.keep b o e), fun a o e => let ⟨x1, x2, ro, y, z⟩ := F.obj a o e; ⟨x1, x2, ro, hkeep _ _ y, z⟩, F.gens, F.os⟩, (notin _ (Nat.le_refl _)).1, (notin _ (Nat.le_refl _)).2, ?_, fun y k e => ?_, fun y z k e1 e2 => ?_, fun _ y k e => ?_⟩
    · refine ⟨_, hns, fun y v e => ?_⟩
      rw [← hzip] at e
      rcases bindA_rev e with ⟨u, a, b⟩ | ⟨_, b⟩
      · refine .inl ⟨?_, u, a, b⟩
        have hmem : (y, u) ∈ (names.zip (as ++ dflt)).reverse := by
          have : ∀ {l : List (Str × Value)}, l.lookup y = some u → (y, u) ∈ l := fun {l} h => mem_of_lookup h
          exact this a
        have hy : y ∈ names := (List.of_mem_zip (List.mem_reverse.mp hmem)).1
        have : fd.scope.names.lookup y = some .local := by rw [e3]; exact hloc _ hy
        exact this
      · cases b
    · rw [ecell] at e; cases e
    · rw [ecell] at e1; cases e1
    · rw [ecell] at e; cases e
  refine wpAny_mono (h _ s.heap.objs.size hA' P _ (fun e s' => wpAny (Mo c) (A.deeper (callEnv fd s.heap.objs.size f)) (leaving (callEnv fd s.heap.objs.size f) e) (fun _ s'' => R (.error e) s'') (fun e' s'' => R (.error e') s'') s') FF) (fun fl s2 ⟨H', m', F', q⟩ => ?_) fun _ _ e => e
  refine k _ s2 H' F'.toRH ?_
  have e9 := erF_retv fl
  cases fl <;> exact q

theorem EV.mulL {l r : Expr} {pos : Pos} {Q : Value → AH → Prop}
    (h : EV c A env (eval l env) H m (fun a H1 => EV c A env (eval r env) H1 m (fun b H2 => ∃ l v, ∃ n : Int, a = Rf l ∧ b = I n ∧ 0 ≤ n ∧ n ≤ 1000 ∧ H2 l = some (.list [v]) ∧ ∀ D, H2 D = none → Q (Rf D) (upd H2 D (.list (List.replicate n.toNat v)))))) : EV c A env (eval (.BinOp l .Mult r pos) env) H m Q :=
  fun P s E F => wpAny_BinOp (wpAny_mono (h P s E F) (fun u s1 ⟨_, F1, h1⟩ => wpAny_mono (h1 P s1 E F1) (fun v s2 q9 => by
    obtain ⟨H2, F2, l, w, n, e1, e2, h0, hn, hl, q⟩ := q9
    have := er_ref e1; subst this
    obtain ⟨t, rfl⟩ := er_int e2
    obtain ⟨vs, k, ho, e⟩ := F2.isList hl
    have hsz := size_of e
    obtain ⟨y, hy⟩ : ∃ y, vs = #[y] := by
      obtain ⟨vl⟩ := vs
      match vl, e with
      | [y], _ => exact ⟨y, rfl⟩
      | [], e => cases e
      | _ :: _ :: _, e => cases e
    subst hy
    have ey : er y = w := by cases e; rfl
    refine wpAny_binaryOp_repeat_ref (T := "list") (U := "int") (by decide) ⟨_, ho, rfl⟩ (fun s' => typeIs_int s' n t) noFill_list_mul PySem.F.fills_int_mul PySem.F.slot_int_rmul repeat_list PySem.F.slot_int_index.lookup
      (call_meets PySem.F.slot_int_rmul (typeIs_int s2 n t) PySem.F.entry_int_rmul (PySem.F.args_int_rmul_2 _ _) (int___rmul___int_list n t l #[y] k)
        ⟨ho, rfl, ⟨_, ho, rfl⟩, call_meets PySem.F.slot_list_mul ⟨_, ho, rfl⟩ PySem.F.entry_list_mul (PySem.F.args_list_mul_2 _ _)
          (AutoListH.list___mul___list_int_3 l #[y] k n t (by simp [Builtin.List.listFitsIndex]; (exact om32 h0 hn)) (by have hs1 : (#[y] : Array Value).size = 1 := rfl; rw [hs1]; (exact om33 h0 hn)) (by have hs1 : (#[y] : Array Value).size = 1 := rfl; simp [Builtin.List.listTooLong, sizeLine, hs1]; (exact om34 h0 hn)))
          ⟨ho, ?_⟩⟩)
    have key : ∀ (j : Nat) (a : Array Value), (List.foldl (fun x1 x2 => x1 ++ x2) a (List.replicate j #[y])).toList.map er = a.toList.map er ++ List.replicate j w := by
      intro j
      induction j with
      | zero => intro a; simp
      | succ j ih => intro a; rw [List.replicate_succ, List.foldl_cons, ih]; simp [ey, List.replicate_succ]
    refine ⟨_, F2.alloc (o := .list (List.replicate n.toNat w)) (tk := s2.toks) ⟨_, _, rfl, ?_⟩, q _ F2.toRH.fresh.2⟩
    have := key n.toNat #[]
    simpa using this) fun _ _ e => e) fun _ _ e => e)

theorem EV.sliceRev {value st : Expr} {p pos : Pos} {Q : Value → AH → Prop}
    (h : EV c A env (eval value env) H m (fun v H1 => EV c A env (eval st env) H1 m (fun k H2 => ∃ l xs, v = Rf l ∧ k = I (-1) ∧ H2 l = some (.list xs) ∧ xs.length ≤ 1000000 ∧ ∀ D, H2 D = none → Q (Rf D) (upd H2 D (.list xs.reverse)))))
    (ht : autoParam (∀ o r, letTemporaryGo value o r = pure ()) autoRfl2) : EV c A env (eval (.Subscript value (.Slice none none (some st) p) pos) env) H m Q := fun P s E F => by
  refine wpAny_Subscript_Slice_step (T := "list") list_getitem_lookup (wpAny_mono (h P s E F) (fun o s1 ⟨H1, F1, h1⟩ => wpAny_Slice (wpAny_pure (wpAny_pure (wpAny_mono (h1 P s1 E F1) (fun k s2 ⟨H2, F2, l, xs, e1, e2, hl, hz, q⟩ => ?_) fun _ _ e => e)))) fun _ _ e => e) ht
  have := er_ref e1; subst this
  obtain ⟨t, rfl⟩ := er_int e2
  obtain ⟨vs, n, ho, e⟩ := F2.isList hl
  have hL : s2.heap.IsList l vs := ⟨_, ho, rfl, n, rfl⟩
  have hsz := size_of e
  have F3 : RF c P H2 env m { s2 with heap := s2.heap.push { cls := .type "slice", data := .fields #[.none, .none, .int (-1) t] }, toks := s2.toks } := F2.push _
  refine ⟨(hL.push _).typeIs, wpAny_getItem_list_slice (hL.push _) (Heap.IsSliceOf.new ..) .none .none (.int _ _) (by decide) ?_ (by rw [hsz, sizeLine_eq]; (exact om9 hz hsz))⟩
  rw [krv_pick]
  exact ⟨_, F3.alloc (o := .list xs.reverse) (tk := s2.toks) ⟨_, _, rfl, by rw [← e]; simp⟩, q _ F3.toRH.fresh.2⟩

theorem EV.slice63 {value up : Expr} {p pos : Pos} {Q : Value → AH → Prop} {l : Addr} {vs : Array Value} (hT : c.T.IsList l vs) (hz : vs.size ≤ 1000) 
    (h : EV c A env (eval value env) H m (fun v H1 => EV c A env (eval up env) H1 m (fun k H2 => v = Rf l ∧ k = I 63 ∧ ∀ D, H2 D = none → Q (Rf D) (upd H2 D (.list ((vs.toList.take 63).map er))))))
    (ht : autoParam (∀ o r, letTemporaryGo value o r = pure ()) autoRfl2) : EV c A env (eval (.Subscript value (.Slice none (some up) none p) pos) env) H m Q := fun P s E F => by
  refine wpAny_Subscript_list_slice (wpAny_mono (h P s E F) (fun o s1 ⟨H1, F1, h1⟩ => wpAny_pure (wpAny_mono (h1 P s1 E F1) (fun k s2 ⟨H2, F2, e1, e2, q⟩ => ?_) fun _ _ e => e)) fun _ _ e => e) ht
  have := er_ref e1; subst this
  obtain ⟨t, rfl⟩ := er_int e2
  have hL : s2.heap.IsList l vs := by
    obtain ⟨o, ho, r⟩ := hT
    exact ⟨o, F2.toRH.kept _ _ ho, r⟩
  refine ⟨l, vs, none, some 63, rfl, hL, by rw [sizeLine_eq]; (exact om35 hz), .none, .int _ _, ?_⟩
  have F3 : RF c P H2 env m { s2 with heap := s2.heap.push { cls := .type "slice", data := .fields #[.none, .int 63 t, .none] }, toks := s2.toks } := F2.push _
  have := F3.alloc (ro := { cls := .type "list", data := .seq (slicePick vs none (some 63) none) }) (o := .list ((vs.toList.take 63).map er)) (tk := s2.toks) ⟨_, _, rfl, by rw [show (63 : Int) = ((63 : Nat) : Int) from rfl, slicePick_upto']⟩
  have e0 : (Heap.push s2.heap { cls := .type "slice", data := .fields #[.none, .int 63 t, .none] }).objs.size = s2.heap.objs.size + 1 := Heap.size_push ..
  rw [show ({ s2 with heap := s2.heap.push { cls := .type "slice", data := .fields #[.none, .int 63 t, .none] }, toks := s2.toks } : Shared).heap.objs.size = s2.heap.objs.size + 1 from e0] at this
  have hfr := F3.toRH.fresh.2
  rw [show ({ s2 with heap := s2.heap.push { cls := .type "slice", data := .fields #[.none, .int 63 t, .none] }, toks := s2.toks } : Shared).heap.objs.size = s2.heap.objs.size + 1 from e0] at hfr
  exact ⟨_, this, q _ hfr⟩

/-! lists of lists of ints -/
inductive LL (H : AH) : List Value → List (List Int) → Prop
  | nil : LL H [] []
  | cons {v : Value} {n : List Int} {vs : List Value} {ns : List (List Int)} : (∃ l : Addr, v = Rf l ∧ H l = some (.list (n.map I))) → LL H vs ns → LL H (v :: vs) (n :: ns)
theorem reads_LL {us vs : List Value} {ns : List (List Int)} (F : RF c P H env m s) (e : us.map er = vs) (h : LL H vs ns) : ∃ as, ReadsAll s.heap us (ns.map fun n => PyData.list (n.map PyData.int)) as := by
  induction h generalizing us with
  | nil => cases us with
    | nil => exact ⟨_, .nil⟩
    | cons u r => cases e
  | cons h1 h2 ih =>
    cases us with
    | nil => cases e
    | cons u r =>
      rw [List.map_cons] at e
      obtain ⟨e1, e2⟩ := List.cons.inj e
      obtain ⟨l, rfl, hl⟩ := h1
      have := er_ref e1; subst this
      obtain ⟨ws, hL, e3⟩ := F.isL hl
      obtain ⟨as, ha⟩ := ih e2
      exact ⟨_, .cons (reads_of_ints (vs := ws.toList) (by simpa using hL) (ints_of e3)) ha⟩
theorem eqvAll_ints {a b : List Int} : PyData.eqvAll (a.map PyData.int) (b.map PyData.int) = decide (a = b) := by
  induction a generalizing b with
  | nil => cases b <;> simp [PyData.eqvAll]
  | cons x r ih => cases b with
    | nil => simp [PyData.eqvAll]
    | cons y q =>
      simp only [List.map_cons, PyData.eqvAll, PyData.eqv, ih]
      by_cases h : x = y <;> simp [h]
theorem eqvAll_LL {a b : List (List Int)} : PyData.eqvAll (a.map fun n => PyData.list (n.map PyData.int)) (b.map fun n => PyData.list (n.map PyData.int)) = decide (a = b) := by
  induction a generalizing b with
  | nil => cases b <;> simp [PyData.eqvAll]
  | cons x r ih => cases b with
    | nil => simp [PyData.eqvAll]
    | cons y q =>
      simp only [List.map_cons, PyData.eqvAll, PyData.eqv, ih, eqvAll_ints]
      by_cases h : x = y <;> simp [h]
theorem canLay_ints {a : List Int} : PyData.canLayAll0 (a.map PyData.int) = true := by
  induction a with
  | nil => rfl
  | cons x r ih => simp [PyData.canLayAll0, PyData.canLay0, ih]
theorem depth_ints {a : List Int} : PyData.depthAll (a.map PyData.int) = 0 := by
  induction a with
  | nil => rfl
  | cons x r ih => simp [PyData.depthAll, PyData.depth, ih]
theorem shaped_LL {a : List (List Int)} : SeqAt.shaped (.list (a.map fun n => PyData.list (n.map PyData.int))) = true := by
  have h1 : PyData.canLayAll0 (a.map fun n => PyData.list (n.map PyData.int)) = true := by
    induction a with
    | nil => rfl
    | cons x r ih => simp [PyData.canLayAll0, PyData.canLay0, ih, canLay_ints]
  have h2 : PyData.depthAll (a.map fun n => PyData.list (n.map PyData.int)) ≤ 1 := by
    clear h1
    induction a with
    | nil => exact Nat.zero_le _
    | cons x r ih => simp only [List.map_cons, PyData.depthAll, PyData.depth, depth_ints]; (exact om36 ih)
  unfold SeqAt.shaped
  simp only [PyData.canLay0, h1, PyData.depth, Bool.true_and, decide_eq_true_eq]
  have h3 := Nat.add_le_add_right h2 1
  have h4 : PyData.depthAll (a.map fun n => PyData.list (n.map PyData.int)) + 1 ≤ 64 := by (exact om37 h2)
  simpa using h4
theorem CO.neLL {n : Nat} {a b : Addr} {xs ys : List Value} {ns ms : List (List Int)} (hA : Rm n A) (ha : H a = some (.list xs)) (hb : H b = some (.list ys)) (h1 : LL H xs ns) (h2 : LL H ys ms) :
    CO c A env H m .NotEq (Rf a) (Rf b) (!decide (ns = ms)) := fun P s E Q u v F eu ev q => by
  have := er_ref eu; subst this; have := er_ref ev; subst this
  obtain ⟨vs, hL, e⟩ := F.isL ha
  obtain ⟨ws, hL2, e2⟩ := F.isL hb
  obtain ⟨o, ho, hc, k, hd⟩ := hL
  obtain ⟨o2, ho2, hc2, k2, hd2⟩ := hL2
  obtain ⟨as, r1⟩ := reads_LL F e h1
  obtain ⟨bs, r2⟩ := reads_LL F e2 h2
  refine ne_dataH (Reads.list ho hc hd r1) (Reads.list ho2 hc2 hd2 r2) shaped_LL shaped_LL (by have := hA.2.2; have e : cLine = 9900 := rfl; (exact om38 this e)) ?_
  have := q _ F
  rw [show PyData.eqv (.list (ns.map fun n => PyData.list (n.map PyData.int))) (.list (ms.map fun n => PyData.list (n.map PyData.int))) = decide (ns = ms) from by simp only [PyData.eqv, eqvAll_LL]]
  exact this
end
end Mine

namespace Mine
open PySem PySem.W PySem.Calls PyProof.Rows

inductive ForRP (v : Value) (H0 : AH) (m : Ms) (T D : Nat → (Nat → AH → Ms → Prop) → Prop) : Prop
  | mk (n : Nat) (Inv : Nat → AH → Ms → Prop) (e : v = I n) (hn : n < 2 ^ 59) (h0 : Inv 0 H0 m) (t : T n Inv) (d : D n Inv) : ForRP v H0 m T D
inductive ForLP (v : Value) (H0 : AH) (m : Ms) (T D : List Value → (Nat → AH → Ms → Prop) → Prop) : Prop
  | mk (l : Addr) (xs : List Value) (Inv : Nat → AH → Ms → Prop) (e : v = Rf l) (on : ∀ i H m, Inv i H m → H l = some (.list xs)) (h0 : Inv 0 H0 m) (t : T xs Inv) (d : D xs Inv) : ForLP v H0 m T D
inductive CompLP (v : Value) (H0 : AH) (T D : List Value → (Nat → List Value → AH → Prop) → Prop) : Prop
  | mk (l : Addr) (xs : List Value) (Inv : Nat → List Value → AH → Prop) (e : v = Rf l) (hz : xs.length ≤ 1000000) (on : ∀ i ys H, Inv i ys H → H l = some (.list xs) ∧ ys.length = i) (h0 : Inv 0 [] H0) (t : T xs Inv) (d : D xs Inv) : CompLP v H0 T D
inductive CompRP (v : Value) (H0 : AH) (T D : Nat → (Nat → List Value → AH → Prop) → Prop) : Prop
  | mk (n : Nat) (Inv : Nat → List Value → AH → Prop) (e : v = I n) (hn : n ≤ 1000000) (on : ∀ i ys H, Inv i ys H → ys.length = i) (h0 : Inv 0 [] H0) (t : T n Inv) (d : D n Inv) : CompRP v H0 T D

section
variable {c : Cx} {P : PH} {H : AH} {env : Env} {m : Ms} {s : Shared} {A : Around} {K : Frag}

theorem AS.mono' {t : Value → Sem Unit} {v : Value} {Q Q' : AH → Ms → Prop} (h : AS c A env t v H m Q) (q : ∀ H' m', Q H' m' → Q' H' m') : AS c A env t v H m Q' :=
  fun P s E u F e => wpAny_mono (h P s E u F e) (fun _ _ ⟨H', m', F', x⟩ => ⟨H', m', F', q _ _ x⟩) fun _ _ e => e

theorem EX.forR {x : Str} {px p pos cpos : Pos} {e : Expr} {body : List Stmt} {Q : Flow → AH → Ms → Prop} (G : Gl c K) (hr : nsIn K mainGlobals (Str.ofString "range") = some none) (hh : A.handled = none)
    (h : EV c A env (eval e env) H m (fun v H0 => ForRP v H0 m (fun n Inv => ∀ (i : Nat) H1 m1, i < n → Inv i H1 m1 → EX c A env (execs body env) H1 (mset m1 x (I i)) (fun f H3 m3 => f = .next ∧ Inv (i + 1) H3 m3)) fun n Inv => ∀ H1 m1, Inv n H1 m1 → Q .next H1 m1))
    (st : autoParam (stOk env x = true) autoRfl) (hk : autoParam (env.scope.kind = .function) autoRfl) (hx : autoParam (env.kindOf (Str.ofString "range") = some .globalImplicit) autoRfl) (hg : autoParam (env.globals = mainGlobals) autoRfl) (hbb : autoParam (env.builtins = builtinsNs) autoRfl)
    (he : autoParam (starEach [e] env = [(false, eval e env)]) autoRfl) (hs : autoParam (∀ y, foldedSetIterable (.Call (.Name (Str.ofString "range") p) [e] [] cpos) env y = pure y) autoRfl1) :
    EX c A env (exec (.For (.Name x px) (.Call (.Name (Str.ofString "range") p) [e] [] cpos) body [] pos) env) H m Q :=
  EX.for_ hh (SRC.range1 G hr (h.mono fun v H0 ⟨n, Inv, e1, hn, h0, ht, hd⟩ => ⟨n, e1, by (exact om39 hn), by (exact om40 hn), (List.range n).map (fun i : Nat => I (0 + (i : Int))), Inv, fun _ _ _ _ => by show _ = _; simp, h0, fun i v H1 m1 hv hi => by
    rw [List.getElem?_map] at hv
    obtain ⟨j, hj, rfl⟩ := Option.map_eq_some_iff.mp hv
    obtain ⟨hlt, hij⟩ := List.getElem?_eq_some_iff.mp hj
    rw [List.getElem_range] at hij
    subst hij
    rw [List.length_range] at hlt
    rw [Int.zero_add]
    exact AS.name ((ht i H1 m1 hlt hi).mono fun f H3 m3 ⟨e, q⟩ => by subst e; exact q) st, fun H1 m1 hi => hd H1 m1 (by simpa using hi)⟩) hk hx hg hbb he) hs

theorem EX.forL {target iter : Expr} {pos : Pos} {body : List Stmt} {Q : Flow → AH → Ms → Prop} (hh : A.handled = none)
    (h : EV c A env (eval iter env) H m (fun v H0 => ForLP v H0 m (fun xs Inv => ∀ (i : Nat) v H1 m1, xs[i]? = some v → Inv i H1 m1 → AS c A env (assign target env) v H1 m1 (fun H2 m2 => EX c A env (execs body env) H2 m2 (fun f H3 m3 => f = .next ∧ Inv (i + 1) H3 m3))) fun xs Inv => ∀ H1 m1, Inv xs.length H1 m1 → Q .next H1 m1))
    (hs : autoParam (∀ x, foldedSetIterable iter env x = pure x) autoRfl1) :
    EX c A env (exec (.For target iter body [] pos) env) H m Q :=
  EX.for_ hh (SRC.list (h.mono fun v H0 ⟨l, xs, Inv, e1, on, h0, ht, hd⟩ => ⟨l, xs, e1, on _ _ _ h0, xs, Inv, on, h0, fun i v H1 m1 hv hi P s E u F eu =>
    ht i v H1 m1 hv hi |>.mono' (fun H2 m2 z => z.mono fun f H3 m3 ⟨e, q⟩ => by subst e; exact q) P s E u F eu, hd⟩)) hs
theorem EX.setcompL {elt iter : Expr} {x y : Str} {px py : Pos} {scope : Scope} {pos spos : Pos} {Q : Flow → AH → Ms → Prop} (hh : A.handled = none)
    (h : EV c A env (eval iter env) H m (fun v H0 => CompLP v H0 (fun xs Inv => ∀ C cl (i : Nat) v ys H1, xs[i]? = some v → Inv i ys H1 → EV c A (compEnvC scope cl C env) (eval elt (compEnvC scope cl C env)) H1 (mset (capt scope env m) x v) (fun y H3 => Inv (i + 1) (ys ++ [y]) H3)) fun xs Inv => ∀ ys H1 D, Inv xs.length ys H1 → H1 D = none → Q .next (upd H1 D (.list ys)) (mset m y (Rf D))))
    (st : autoParam (stOk env y = true) autoRfl)
    (hsw : autoParam (swapsWith (.ListComp elt [⟨.Name x px, iter, [], 0⟩] scope pos) (some (.Name y py)) spos.line env = pure true) autoRfl)
    (hf : autoParam (freeOk scope env = true) autoRfl) (hkind : autoParam (scope.kind = .function) autoRfl) (hnames : autoParam (∀ y ∈ scope.names, y.2 = .local → scope.names.lookup y.1 = some .local) autoDec) (hx : autoParam (scope.names.lookup x = some .local) autoRfl)
    (hs : autoParam (∀ x, foldedSetIterable iter env x = pure x) autoRfl1) : EX c A env (exec (.Assign [.Name y py] (.ListComp elt [⟨.Name x px, iter, [], 0⟩] scope pos) spos) env) H m Q :=
  EX.setcomp hh (SRC.list (h.mono fun v H0 ⟨l, xs, Inv, e1, hz, on, h0, ht, hd⟩ => ⟨l, xs, e1, (on _ _ _ h0).1, xs, Inv, hz, fun i ys H h => ⟨(on i ys H h).1, Nat.le_of_eq (on i ys H h).2⟩, h0, fun C cl i v ys H1 hv hi => TS.nil (by rw [if_pos rfl]; exact ht C cl i v ys H1 hv hi), hd⟩)) st hsw hf hkind hnames hx hs
theorem EV.compL {elt iter : Expr} {x : Str} {px : Pos} {scope : Scope} {pos : Pos} {Q : Value → AH → Prop} (hh : A.handled = none)
    (h : EV c A env (eval iter env) H m (fun v H0 => CompLP v H0 (fun xs Inv => ∀ C cl (i : Nat) v ys H1, xs[i]? = some v → Inv i ys H1 → EV c A (compEnvC scope cl C env) (eval elt (compEnvC scope cl C env)) H1 (mset (capt scope env m) x v) (fun y H3 => Inv (i + 1) (ys ++ [y]) H3)) fun xs Inv => ∀ ys H1 D, Inv xs.length ys H1 → H1 D = none → Q (Rf D) (upd H1 D (.list ys))))
    (hf : autoParam (freeOk scope env = true) autoRfl) (hkind : autoParam (scope.kind = .function) autoRfl) (hnames : autoParam (∀ y ∈ scope.names, y.2 = .local → scope.names.lookup y.1 = some .local) autoDec) (hx : autoParam (scope.names.lookup x = some .local) autoRfl)
    (hs : autoParam (∀ x, foldedSetIterable iter env x = pure x) autoRfl1) : EV c A env (eval (.ListComp elt [⟨.Name x px, iter, [], 0⟩] scope pos) env) H m Q :=
  EV.comp hh (SRC.list (h.mono fun v H0 ⟨l, xs, Inv, e1, hz, on, h0, ht, hd⟩ => ⟨l, xs, e1, (on _ _ _ h0).1, xs, Inv, hz, fun i ys H h => ⟨(on i ys H h).1, Nat.le_of_eq (on i ys H h).2⟩, h0, fun C cl i v ys H1 hv hi => TS.nil (by rw [if_pos rfl]; exact ht C cl i v ys H1 hv hi), hd⟩)) hf hkind hnames hx hs
theorem EX.setcompL' {elt iter : Expr} {x y : Str} {px py : Pos} {scope : Scope} {pos spos : Pos} {Q : Flow → AH → Ms → Prop} (hh : A.handled = none)
    (h : EV c A env (eval iter env) H m (fun v H0 => CompLP v H0 (fun xs Inv => ∀ C (i : Nat) v ys H1, xs[i]? = some v → Inv i ys H1 → EV c A (compEnvC scope (closL env.cells scope.names []) C env) (eval elt (compEnvC scope (closL env.cells scope.names []) C env)) H1 (mset (capt scope env m) x v) (fun y H3 => Inv (i + 1) (ys ++ [y]) H3)) fun xs Inv => ∀ ys H1 D, Inv xs.length ys H1 → H1 D = none → Q .next (upd H1 D (.list ys)) (mset m y (Rf D))))
    (st : autoParam (stOk env y = true) autoRfl)
    (hsw : autoParam (swapsWith (.ListComp elt [⟨.Name x px, iter, [], 0⟩] scope pos) (some (.Name y py)) spos.line env = pure true) autoRfl)
    (hf : autoParam (freeOk scope env = true) autoRfl) (hkind : autoParam (scope.kind = .function) autoRfl) (hnames : autoParam (∀ y ∈ scope.names, y.2 = .local → scope.names.lookup y.1 = some .local) autoDec) (hx : autoParam (scope.names.lookup x = some .local) autoRfl)
    (hs : autoParam (∀ x, foldedSetIterable iter env x = pure x) autoRfl1) : EX c A env (exec (.Assign [.Name y py] (.ListComp elt [⟨.Name x px, iter, [], 0⟩] scope pos) spos) env) H m Q :=
  EX.setcomp' hh (SRC.list (h.mono fun v H0 ⟨l, xs, Inv, e1, hz, on, h0, ht, hd⟩ => ⟨l, xs, e1, (on _ _ _ h0).1, xs, Inv, hz, fun i ys H h => ⟨(on i ys H h).1, Nat.le_of_eq (on i ys H h).2⟩, h0, fun C i v ys H1 hv hi => TS.nil (by rw [if_pos rfl]; exact ht C i v ys H1 hv hi), hd⟩)) st hsw hf hkind hnames hx hs
theorem EV.compL' {elt iter : Expr} {x : Str} {px : Pos} {scope : Scope} {pos : Pos} {Q : Value → AH → Prop} (hh : A.handled = none)
    (h : EV c A env (eval iter env) H m (fun v H0 => CompLP v H0 (fun xs Inv => ∀ C (i : Nat) v ys H1, xs[i]? = some v → Inv i ys H1 → EV c A (compEnvC scope (closL env.cells scope.names []) C env) (eval elt (compEnvC scope (closL env.cells scope.names []) C env)) H1 (mset (capt scope env m) x v) (fun y H3 => Inv (i + 1) (ys ++ [y]) H3)) fun xs Inv => ∀ ys H1 D, Inv xs.length ys H1 → H1 D = none → Q (Rf D) (upd H1 D (.list ys))))
    (hf : autoParam (freeOk scope env = true) autoRfl) (hkind : autoParam (scope.kind = .function) autoRfl) (hnames : autoParam (∀ y ∈ scope.names, y.2 = .local → scope.names.lookup y.1 = some .local) autoDec) (hx : autoParam (scope.names.lookup x = some .local) autoRfl)
    (hs : autoParam (∀ x, foldedSetIterable iter env x = pure x) autoRfl1) : EV c A env (eval (.ListComp elt [⟨.Name x px, iter, [], 0⟩] scope pos) env) H m Q :=
  EV.comp' hh (SRC.list (h.mono fun v H0 ⟨l, xs, Inv, e1, hz, on, h0, ht, hd⟩ => ⟨l, xs, e1, (on _ _ _ h0).1, xs, Inv, hz, fun i ys H h => ⟨(on i ys H h).1, Nat.le_of_eq (on i ys H h).2⟩, h0, fun C i v ys H1 hv hi => TS.nil (by rw [if_pos rfl]; exact ht C i v ys H1 hv hi), hd⟩)) hf hkind hnames hx hs
theorem EV.compR {elt e : Expr} {x : Str} {px p cpos : Pos} {scope : Scope} {pos : Pos} {Q : Value → AH → Prop} (G : Gl c K) (hr : nsIn K mainGlobals (Str.ofString "range") = some none) (hh : A.handled = none)
    (h : EV c A env (eval e env) H m (fun v H0 => CompRP v H0 (fun n Inv => ∀ C cl (i : Nat) ys H1, i < n → Inv i ys H1 → EV c A (compEnvC scope cl C env) (eval elt (compEnvC scope cl C env)) H1 (mset (capt scope env m) x (I i)) (fun y H3 => Inv (i + 1) (ys ++ [y]) H3)) fun n Inv => ∀ ys H1 D, Inv n ys H1 → H1 D = none → Q (Rf D) (upd H1 D (.list ys))))
    (hk : autoParam (env.scope.kind = .function) autoRfl) (hx' : autoParam (env.kindOf (Str.ofString "range") = some .globalImplicit) autoRfl) (hg : autoParam (env.globals = mainGlobals) autoRfl) (hbb : autoParam (env.builtins = builtinsNs) autoRfl)
    (he : autoParam (starEach [e] env = [(false, eval e env)]) autoRfl)
    (hf : autoParam (freeOk scope env = true) autoRfl) (hkind : autoParam (scope.kind = .function) autoRfl) (hnames : autoParam (∀ y ∈ scope.names, y.2 = .local → scope.names.lookup y.1 = some .local) autoDec) (hx : autoParam (scope.names.lookup x = some .local) autoRfl)
    (hs : autoParam (∀ y, foldedSetIterable (.Call (.Name (Str.ofString "range") p) [e] [] cpos) env y = pure y) autoRfl1) : EV c A env (eval (.ListComp elt [⟨.Name x px, .Call (.Name (Str.ofString "range") p) [e] [] cpos, [], 0⟩] scope pos) env) H m Q :=
  EV.comp hh (SRC.range1 G hr (h.mono fun v H0 ⟨n, Inv, e1, hn, on, h0, ht, hd⟩ => ⟨n, e1, by (exact om41 hn), by (exact om42 hn), (List.range n).map (fun i : Nat => I (0 + (i : Int))), Inv, by simpa using hn, fun i ys H h => ⟨by show _ = _; simp, Nat.le_of_eq (on i ys H h)⟩, h0, fun C cl i v ys H1 hv hi => TS.nil (by
    rw [List.getElem?_map] at hv
    obtain ⟨j, hj, rfl⟩ := Option.map_eq_some_iff.mp hv
    obtain ⟨hlt, hij⟩ := List.getElem?_eq_some_iff.mp hj
    rw [List.getElem_range] at hij
    subst hij
    rw [List.length_range] at hlt
    rw [Int.zero_add, if_pos rfl]
    exact ht C cl i ys H1 hlt hi), fun ys H1 D hi hD => hd ys H1 D (by simpa using hi) hD⟩) hk hx' hg hbb he) hf hkind hnames hx hs
theorem EX.setcompR {elt e : Expr} {x y : Str} {px py p cpos : Pos} {scope : Scope} {pos spos : Pos} {Q : Flow → AH → Ms → Prop} (G : Gl c K) (hr : nsIn K mainGlobals (Str.ofString "range") = some none) (hh : A.handled = none)
    (h : EV c A env (eval e env) H m (fun v H0 => CompRP v H0 (fun n Inv => ∀ C cl (i : Nat) ys H1, i < n → Inv i ys H1 → EV c A (compEnvC scope cl C env) (eval elt (compEnvC scope cl C env)) H1 (mset (capt scope env m) x (I i)) (fun y H3 => Inv (i + 1) (ys ++ [y]) H3)) fun n Inv => ∀ ys H1 D, Inv n ys H1 → H1 D = none → Q .next (upd H1 D (.list ys)) (mset m y (Rf D))))
    (st : autoParam (stOk env y = true) autoRfl)
    (hsw : autoParam (swapsWith (.ListComp elt [⟨.Name x px, .Call (.Name (Str.ofString "range") p) [e] [] cpos, [], 0⟩] scope pos) (some (.Name y py)) spos.line env = pure true) autoRfl)
    (hk : autoParam (env.scope.kind = .function) autoRfl) (hx' : autoParam (env.kindOf (Str.ofString "range") = some .globalImplicit) autoRfl) (hg : autoParam (env.globals = mainGlobals) autoRfl) (hbb : autoParam (env.builtins = builtinsNs) autoRfl)
    (he : autoParam (starEach [e] env = [(false, eval e env)]) autoRfl)
    (hf : autoParam (freeOk scope env = true) autoRfl) (hkind : autoParam (scope.kind = .function) autoRfl) (hnames : autoParam (∀ y ∈ scope.names, y.2 = .local → scope.names.lookup y.1 = some .local) autoDec) (hx : autoParam (scope.names.lookup x = some .local) autoRfl)
    (hs : autoParam (∀ y, foldedSetIterable (.Call (.Name (Str.ofString "range") p) [e] [] cpos) env y = pure y) autoRfl1) : EX c A env (exec (.Assign [.Name y py] (.ListComp elt [⟨.Name x px, .Call (.Name (Str.ofString "range") p) [e] [] cpos, [], 0⟩] scope pos) spos) env) H m Q :=
  EX.setcomp hh (SRC.range1 G hr (h.mono fun v H0 ⟨n, Inv, e1, hn, on, h0, ht, hd⟩ => ⟨n, e1, by (exact om41 hn), by (exact om42 hn), (List.range n).map (fun i : Nat => I (0 + (i : Int))), Inv, by simpa using hn, fun i ys H h => ⟨by show _ = _; simp, Nat.le_of_eq (on i ys H h)⟩, h0, fun C cl i v ys H1 hv hi => TS.nil (by
    rw [List.getElem?_map] at hv
    obtain ⟨j, hj, rfl⟩ := Option.map_eq_some_iff.mp hv
    obtain ⟨hlt, hij⟩ := List.getElem?_eq_some_iff.mp hj
    rw [List.getElem_range] at hij
    subst hij
    rw [List.length_range] at hlt
    rw [Int.zero_add, if_pos rfl]
    exact ht C cl i ys H1 hlt hi), fun ys H1 D hi hD => hd ys H1 D (by simpa using hi) hD⟩) hk hx' hg hbb he) st hsw hf hkind hnames hx hs
end
end Mine

namespace Mine
open PySem PySem.W PySem.Calls PyProof.Rows

section
variable {c : Cx} {P : PH} {H : AH} {env : Env} {m : Ms} {s : Shared} {A : Around} {K : Frag}

theorem compTurn_at1 (elt : Expr) (g0 : Comprehension) (target iter : Expr) (scope : Scope) (pos : Pos) (it acc : Value) (env : Env) :
    compTurn (.ListComp elt [g0, ⟨target, iter, [], 0⟩] scope pos) 1 it acc env = (standAt iter.pos >>= fun _ => pyNext it >>= fun r => match r with
      | none => pure (.done .next)
      | some v => letOwnedTupleGo target it v >>= fun _ => assign target env v >>= fun _ =>
        (eval elt env >>= fun x => call (.builtin "list.append") [acc, x] >>= fun _ => pure ()) >>= fun _ =>
          again (.compLoop (.ListComp elt [g0, ⟨target, iter, [], 0⟩] scope pos) 1 it acc env)) := by rfl
theorem compTurn_at0 (elt target iter target1 iter1 : Expr) (scope : Scope) (pos : Pos) (it acc : Value) (env : Env) :
    compTurn (.ListComp elt [⟨target, iter, [], 0⟩, ⟨target1, iter1, [], 0⟩] scope pos) 0 it acc env = (standAt iter.pos >>= fun _ => pyNext it >>= fun r => match r with
      | none => pure (.done .next)
      | some v => letOwnedTupleGo target it v >>= fun _ => assign target env v >>= fun _ =>
        eval iter1 env >>= fun x => standAt iter1.pos >>= fun _ => foldedSetIterable iter1 env x >>= fun x => holding [x] (pyIter x) >>= fun it1 =>
          runOwn (.compStart (.ListComp elt [⟨target, iter, [], 0⟩, ⟨target1, iter1, [], 0⟩] scope pos) 1 it1 acc env) env >>= fun _ =>
          again (.compLoop (.ListComp elt [⟨target, iter, [], 0⟩, ⟨target1, iter1, [], 0⟩] scope pos) 0 it acc env)) := by rfl
theorem codeAny_compStart_at1 {prog : Program} {w : World} {R : Result → Shared → Prop} {elt : Expr} {g0 : Comprehension} {target iter : Expr} {scope : Scope} {pos : Pos} {it acc : Value}
    (h0 : codeAny (model prog w) A (.compLoop (.ListComp elt [g0, ⟨target, iter, [], 0⟩] scope pos) 1 it acc env) R s)
    (h : wpAny (model prog w) A (pyIter it) (fun it' s' => codeAny (model prog w) A (.compLoop (.ListComp elt [g0, ⟨target, iter, [], 0⟩] scope pos) 1 it' acc env) R s')
      (notedBy (model prog w) A env fun x s' => R (.error x) s') s) :
    codeAny (model prog w) A (.compStart (.ListComp elt [g0, ⟨target, iter, [], 0⟩] scope pos) 1 it acc env) R s := by
  refine codeAny_of_tree ?_
  show wpAny _ _ ((compStart (.ListComp elt [g0, ⟨target, iter, [], 0⟩] scope pos) 1 it acc env).onRaise (fun x => do noteFrame x env; standAt theWindowsPlace)) _ _ s
  refine wpAny_notedAt ?_
  unfold compStart
  show wpAny _ _ (ask >>= _) _ _ s
  refine wpAny_bind (wpAny_askSetting (wpAny_ite ?_))
  split
  · first
      | exact wpAny_bind (wpAny_pure (wpAny_pure (And.intro rfl h0)))
      | exact wpAny_pure (And.intro rfl h0)
  · first
      | exact wpAny_bind (wpAny_rule (wpAny_bind (wpAny_standAt (wpAny_bind (wpAny_mono h (fun it' s' h' => wpAny_pure (And.intro rfl h')) fun _ _ x => x)))))
      | (refine wpAny_bind (wpAny_rule ?_); show wpAny _ _ (standAt iter.pos >>= _) _ _ s; exact wpAny_bind (wpAny_standAt (wpAny_bind (wpAny_mono h (fun it' s' h' => wpAny_pure (And.intro rfl h')) fun _ _ x => x))))

theorem comp_inner {y : Str} {pe py : Pos} {g0 : Comprehension} {iter1 : Expr} {scope : Scope} {pos : Pos} {it lt D : Addr} {us ys : List Value} {vs : Array Value} {nD : Nat} {R : Result → Shared → Prop} (hh : A.handled = none) (F : RF c P H env m s)
    (hkind : env.scope.kind = .function) (hst : stOk env y = true) (hyd : (y == ("__debug__" : Str)) = false) (hlt : H lt = some (.list us)) (hz : ys.length + us.length ≤ 1000000)
    (tP : P it = none) (tH : H it = none) (tL : it ≠ env.locals) (tC : ∀ x, env.cells.lookup x ≠ some it) (hat : (Src.list lt).at s.heap it 0)
    (dP : P D = none) (dH : H D = none) (dL : D ≠ env.locals) (dC : ∀ x, env.cells.lookup x ≠ some D) (dit : it ≠ D) (getD : s.heap.get? D = some { cls := .type "list", data := .seq vs nD }) (eys : vs.toList.map er = ys)
    (done : ∀ m' vs' nD' s', RF c P H env m' s' → (∀ z v, z ≠ y → m z = some v → m' z = some v) → s'.heap.get? D = some { cls := .type "list", data := .seq vs' nD' } → vs'.toList.map er = ys ++ us → R (.ok .next) s') :
    codeAny (Mo c) A (.compStart (.ListComp (.Name y pe) [g0, ⟨.Name y py, iter1, [], 0⟩] scope pos) 1 (.ref it) (.ref D) env) R s := by
  have TD := F.toRH.top_none dP
  have Tt := F.toRH.top_none tP
  have loop : codeAny (Mo c) A (.compLoop (.ListComp (.Name y pe) [g0, ⟨.Name y py, iter1, [], 0⟩] scope pos) 1 (.ref it) (.ref D) env) R s := by
    refine codeAny_loop rfl (fun n s' => ∃ i m' vs' nD', RF c P H env m' s' ∧ (∀ z v, z ≠ y → m z = some v → m' z = some v) ∧ (Src.list lt).at s'.heap it i ∧ i ≤ us.length ∧ n = us.length + 1 - i ∧
      s'.heap.get? D = some { cls := .type "list", data := .seq vs' nD' } ∧ vs'.toList.map er = ys ++ us.take i) (fun n s' hI => ?_) (us.length + 1) ⟨0, m, vs, nD, F, fun _ _ _ e => e, hat, Nat.zero_le _, rfl, getD, by simpa using eys⟩
    obtain ⟨i, m', vs', nD', F', wk, at', hi, rfl, get', eys'⟩ := hI
    show wpAny _ A ((compTurn (.ListComp (.Name y pe) [g0, ⟨.Name y py, iter1, [], 0⟩] scope pos) 1 (.ref it) (.ref D) env).onRaise (fun x => do noteFrame x env; theTreesLotGoes x)) _ _ s'
    refine wpAny_noted ?_
    rw [compTurn_at1]
    refine wpAny_bind (wpAny_standAt (wpAny_bind ?_))
    cases hv : us[i]? with
    | none =>
      have hin : i = us.length := Nat.le_antisymm hi (by simpa using hv)
      subst hin
      refine src_end hh F' (show (Src.list lt).on H us from hlt) at' fun h1 he1 => ?_
      refine wpAny_pure ?_
      have F1 : RF c P H env m' { s' with heap := h1, toks := s'.toks } := F'.but tP tH tL tC he1
      refine done m' vs' nD' _ F1 wk (he1 _ _ (Ne.symm dit) get') (by rw [eys', List.take_length])
    | some v =>
      have hlt' : i < us.length := (List.getElem?_eq_some_iff.mp hv).1
      refine src_item F' (show (Src.list lt).on H us from hlt) at' hv fun u h1 tk eu at1 hs1 => ?_
      have F1 : RF c P H env m' { s' with heap := h1, toks := tk } := F'.but tP tH tL tC hs1.extBut
      have get1 : h1.get? D = some { cls := .type "list", data := .seq vs' nD' } := hs1.extBut _ _ (Ne.symm dit) get'
      refine wpAny_bind (wpAny_of_eq (show letOwnedTupleGo (.Name y py) (.ref it) u = pure () from rfl) ?_)
      obtain ⟨o, ho⟩ := at1.some
      have F2 := F1.guard ho tP tH tL tC
      have eD2 : ins P it o D = none := (ins_ne _ _ (Ne.symm dit)).trans dP
      have F3 := F2.guard get1 eD2 dH dL dC
      refine wpAny_bind (wpAny_assign_Name (F3.bind hst fun s4 F4 => ?_))
      refine wpAny_bind (wpAny_bind (wpAny_mono (EV.name (x := y) (v := er u) (pos := pe) (Q := fun v H' => v = er u ∧ H' = H) (mset_self ..) ⟨rfl, rfl⟩ hkind hyd _ s4 _ F4) (fun u' s5 q => ?_) fun _ _ e => e))
      obtain ⟨H5, F5, e1, e2⟩ := q
      have e2 := e2.symm; subst e2
      obtain ⟨F8, get8, hD8, _⟩ := F5.unguard eD2 TD
      have hvs : vs'.size ≤ sizeLine := by
        have e1 : vs'.size = (ys ++ us.take i).length := by rw [← eys']; simp
        rw [e1, sizeLine_eq, List.length_append, List.length_take]; (exact om43 hz hlt')
      refine wpAny_bind (wpAny_mono (wpAny_list_append_plain (hsz := hvs) ⟨nD', get8⟩ fun h9 ⟨n9, hl9⟩ hs9 => ?_) (fun _ s6 q => wpAny_pure (wpAny_pure q)) fun _ _ e => e)
      have F9 : RF c (ins P it o) H env (mset m' y (er u)) { s5 with heap := h9, toks := s5.toks } := F8.but eD2 hD8 dL dC hs9.extBut
      obtain ⟨G2, ho6, hI6, _⟩ := F9.unguard tP Tt
      refine ⟨rfl, us.length + 1 - (i + 1), by (exact om27 hlt'), i + 1, _, vs'.push u', n9, G2, fun z v hz e => by rw [mset_ne _ _ hz]; exact wk z v hz e, at1.keep ho ho6, hlt', rfl, hl9, ?_⟩
      rw [Array.toList_push, List.map_append, eys', List.take_add_one, hv, ← eu, List.append_assoc]
      show _ ++ (_ ++ [er u']) = _
      rw [e1]; rfl
  exact codeAny_compStart_at1 loop (src_self hat loop)

noncomputable abbrev Row2 := Addr × Value × Addr × List Value
theorem comp_core2 {iter : Expr} {x1 x2 y : Str} {p1 p2 tp pe py q2 : Pos} {kt : Nat} {scope : Scope} {pos : Pos} {use : Option (Value → Sem Unit)} {E : Value → Shared → Prop} {Q : Value → Shared → Prop} (hh : A.handled = none) (F : RF c P H env m s)
    (hf : freeOk scope env = true) (hkind : scope.kind = .function) (hnames : ∀ y ∈ scope.names, y.2 = .local → scope.names.lookup y.1 = some .local) (hx1 : scope.names.lookup x1 = some .local) (hx2 : scope.names.lookup x2 = some .local) (hy : scope.names.lookup y = some .local)
    (hyd : (y == ("__debug__" : Str)) = false) (hxd : (x2 == ("__debug__" : Str)) = false) (h12 : x1 ≠ x2)
    (hn : ∀ cl C, (assignEach [.Name x1 p1, .Name x2 p2] (compEnvC scope cl C env)).length = 2) (hst : ∀ cl C, (assignEach [.Name x1 p1, .Name x2 p2] (compEnvC scope cl C env)).findIdx? (·.1) = none)
    (hce : ∀ (t : Expr) (ts : List Expr) cl C, t ∈ [Expr.Name x1 p1, .Name x2 p2] → assignEach (t :: ts) (compEnvC scope cl C env) = (false, assign t (compEnvC scope cl C env)) :: assignEach ts (compEnvC scope cl C env))
    (h : SRC c A env iter H m (fun src H0 => ∃ (l : Addr) (xs : List Row2), src = .list l ∧ H0 l = some (.list (xs.map fun q => Rf q.1)) ∧ (∀ q ∈ xs, H0 q.1 = some (.tup [q.2.1, Rf q.2.2.1]) ∧ H0 q.2.2.1 = some (.list q.2.2.2)) ∧ (xs.flatMap fun q => q.2.2.2).length ≤ 1000000 ∧
      ∀ D C s1, H0 D = none → RF c P (upd H0 D (.list (xs.flatMap fun q => q.2.2.2))) env m s1 → P C = none → (upd H0 D (.list (xs.flatMap fun q => q.2.2.2))) C = none → C ≠ env.locals → (∀ x, env.cells.lookup x ≠ some C) → (∃ mC, s1.heap.Ns C mC) → compPost (Mo c) A E use Q (.ref D) C (.ok .next) s1))
    (hs : ∀ x, foldedSetIterable iter env x = pure x) (hs2 : ∀ cl C x, foldedSetIterable (.Name x2 q2) (compEnvC scope cl C env) x = pure x) :
    wpAny (Mo c) A (comprehension (.ListComp (.Name y pe) [⟨.Tuple [.Name x1 p1, .Name x2 p2] kt tp, iter, [], 0⟩, ⟨.Name y py, .Name x2 q2, [], 0⟩] scope pos) scope env (firstIterPos [⟨.Tuple [.Name x1 p1, .Name x2 p2] kt tp, iter, [], 0⟩, ⟨.Name y py, .Name x2 q2, [], 0⟩] pos) (newList []) false (eval iter env) use) Q E s := by
  refine wpAny_comprehension_free (cl := closL env.cells scope.names []) rfl hs (closure_eq hf) hkind hnames ?_
  refine h P s E _ F fun src H0 it s0 ⟨l, xs, hsrc, hl, hxs, hsz, done⟩ F0 hP hH hL hCe hat => ?_
  subst hsrc
  have hTit := F0.toRH.top_none hP
  refine wpAny_newObj_type ?_ (by show (#[] : Array Value).size ≤ sizeLine; exact Nat.zero_le _)
  obtain ⟨zP, zH, zL, zC⟩ := F0.newIt
  have z100 := F0.toRH.large
  have FD : RF c P H0 env m { s0 with heap := s0.heap.push { cls := .type "list", dict := none, data := .seq ([] : List Value).toArray } } := F0.push _
  have hcell : ∀ y ∈ scope.names, y.2 ≠ .cell := fun y hy q => by
    have := List.all_eq_true.mp hf y hy
    rw [Bool.and_eq_true, q] at this
    exact absurd (show false = true from this.1) Bool.false_ne_true
  refine wpAny_newFunctionEnv hcell (by intro y hy; simp at hy) (fun h₁ hns₁ hsb₁ => ?_) hkind
  dsimp only at hns₁ hsb₁ ⊢
  have hDn : (s0.heap.push { cls := .type "list", dict := none, data := .seq ([] : List Value).toArray }).get? s0.heap.objs.size = some { cls := .type "list", dict := none, data := .seq ([] : List Value).toArray } := Heap.get?_push_size _ rfl
  have hitD : it ≠ s0.heap.objs.size := by
    obtain ⟨o, ho⟩ := hat.some
    exact Nat.ne_of_lt (Heap.lt_size ho)
  generalize hH2 : s0.heap.push { cls := .type "list", dict := none, data := .seq ([] : List Value).toArray } = H2 at *
  generalize hD : s0.heap.objs.size = D at *
  have keep : ∀ b o, H2.get? b = some o → h₁.get? b = some o := fun b o e => hsb₁.extBut b o (Nat.ne_of_lt (Heap.lt_size e)) (Heap.get?_push_of_some _ e)
  have hatH2 : ∀ o, s0.heap.get? it = some o → H2.get? it = some o := fun o e => by rw [← hH2]; exact Heap.get?_push_of_some _ e
  obtain ⟨P', le, FC, nL, nC, eqP, back⟩ := FD.compEnter (s1 := { s0 with heap := h₁, toks := s0.toks + ([] : List (Str × Value)).length }) hf rfl hns₁ keep rfl rfl
  have eit : P' it = none := (eqP it hL hCe).trans hP
  have eD : P' D = none := (eqP D zL zC).trans zP
  have TD := FD.toRH.top_none zP
  have sub := closL_sub (cells := env.cells) (names := scope.names) (cs := []) (fun x k e => by cases e)
  have hLit : it ≠ (compEnvC scope (closL env.cells scope.names []) H2.objs.size env).locals := by
    obtain ⟨o, ho⟩ := hat.some
    exact Nat.ne_of_lt (Heap.lt_size (hatH2 o ho))
  have hCit : ∀ y, (compEnvC scope (closL env.cells scope.names []) H2.objs.size env).cells.lookup y ≠ some it := fun y e => hCe y (sub y it e)
  have hLD : D ≠ (compEnvC scope (closL env.cells scope.names []) H2.objs.size env).locals := Nat.ne_of_lt (Heap.lt_size hDn)
  have hCD : ∀ y, (compEnvC scope (closL env.cells scope.names []) H2.objs.size env).cells.lookup y ≠ some D := fun y e => zC y (sub y D e)
  have okst : ∀ z, scope.names.lookup z = some .local → stOk (compEnvC scope (closL env.cells scope.names []) H2.objs.size env) z = true := fun z hz => by
    unfold stOk
    have e1 : (compEnvC scope (closL env.cells scope.names []) H2.objs.size env).scope.kind = .function := hkind
    have e2 : (compEnvC scope (closL env.cells scope.names []) H2.objs.size env).kindOf z = some .local := lookup_relabel_local hz
    rw [e1, e2]; rfl
  have loop : ∀ s3 : Shared, (∃ mC, RF c P' H0 (compEnvC scope (closL env.cells scope.names []) H2.objs.size env) mC s3 ∧ (Src.list l).at s3.heap it 0 ∧ s3.heap.get? D = some { cls := .type "list", data := .seq #[] }) →
      codeAny (Mo c) A (.compLoop (.ListComp (.Name y pe) [⟨.Tuple [.Name x1 p1, .Name x2 p2] kt tp, iter, [], 0⟩, ⟨.Name y py, .Name x2 q2, [], 0⟩] scope pos) 0 (.ref it) (.ref D) (compEnvC scope (closL env.cells scope.names []) H2.objs.size env)) (compPost (Mo c) A E use Q (.ref D) H2.objs.size) s3 := by
    rintro s3 ⟨mC3, F3, at3, get3⟩
    refine codeAny_loop rfl (fun n s' => ∃ i mC vs nD, RF c P' H0 (compEnvC scope (closL env.cells scope.names []) H2.objs.size env) mC s' ∧ (Src.list l).at s'.heap it i ∧ i ≤ xs.length ∧ n = xs.length + 1 - i ∧
      s'.heap.get? D = some { cls := .type "list", data := .seq vs nD } ∧ vs.toList.map er = (xs.take i).flatMap fun q => q.2.2.2) (fun n s' hI => ?_) (xs.length + 1) ⟨0, mC3, #[], 0, F3, at3, Nat.zero_le _, rfl, get3, rfl⟩
    obtain ⟨i, mC, vs, nD, F', at', hi, rfl, get', eys⟩ := hI
    show wpAny _ A ((compTurn (.ListComp (.Name y pe) [⟨.Tuple [.Name x1 p1, .Name x2 p2] kt tp, iter, [], 0⟩, ⟨.Name y py, .Name x2 q2, [], 0⟩] scope pos) 0 (.ref it) (.ref D) (compEnvC scope (closL env.cells scope.names []) H2.objs.size env)).onRaise (fun x => do noteFrame x _; theTreesLotGoes x)) _ _ s'
    refine wpAny_noted ?_
    rw [compTurn_at0]
    refine wpAny_bind (wpAny_standAt (wpAny_bind ?_))
    have hon : (Src.list l).on H0 (xs.map fun q => Rf q.1) := hl
    cases hv : xs[i]? with
    | none =>
      have hin : i = xs.length := Nat.le_antisymm hi (by simpa using hv)
      subst hin
      refine src_end hh F' hon (by rw [List.length_map]; exact at') fun h1 he1 => ?_
      refine wpAny_pure ?_
      have F1 : RF c P' H0 (compEnvC scope (closL env.cells scope.names []) H2.objs.size env) mC { s' with heap := h1, toks := s'.toks } := F'.but eit hH hLit hCit he1
      have get1 : h1.get? D = some { cls := .type "list", data := .seq vs nD } := he1 _ _ (Ne.symm hitD) get'
      have F2 := back _ _ _ F1
      rw [List.take_length] at eys
      have F3 := F2.adopt (o := .list (xs.flatMap fun q => q.2.2.2)) get1 ⟨vs, nD, rfl, eys⟩ zP zL zC z100
      have hCC : H2.objs.size ≠ env.locals := fun q => nL (by rw [← q]; exact F1.locP)
      refine done D H2.objs.size _ zH F3 ?_ ?_ hCC (fun y e => nC y _ e F1.locP) (let ⟨nm, a, _⟩ := F1.loc; ⟨nm, a⟩)
      · cases q : P H2.objs.size with
        | none => rfl
        | some o => have := le _ _ q; have q0 : P' H2.objs.size = none := F1.locP; rw [q0] at this; cases this
      · have nDC : H2.objs.size ≠ D := Ne.symm hLD
        rw [upd_ne _ _ nDC]; exact F1.locH
    | some q =>
      have hlt : i < xs.length := (List.getElem?_eq_some_iff.mp hv).1
      obtain ⟨ht, hlq⟩ := hxs q (List.mem_of_getElem? hv)
      refine src_item F' hon at' (v := Rf q.1) (by rw [List.getElem?_map, hv]; rfl) fun u h1 tk eu at1 hs1 => ?_
      have F1 : RF c P' H0 (compEnvC scope (closL env.cells scope.names []) H2.objs.size env) mC { s' with heap := h1, toks := tk } := F'.but eit hH hLit hCit hs1.extBut
      have get1 : h1.get? D = some { cls := .type "list", data := .seq vs nD } := hs1.extBut _ _ (Ne.symm hitD) get'
      refine wpAny_bind (src_letGo at1 ?_)
      obtain ⟨o, ho⟩ := at1.some
      have F2 := F1.guard ho eit hH hLit hCit
      have eD2 : ins P' it o D = none := (ins_ne _ _ (Ne.symm hitD)).trans eD
      have F3 := F2.guard get1 eD2 zH hLD hCD
      refine wpAny_bind (wpAny_mono (AS.tup (v := Rf q.1) (Q := fun H' m' => H' = H0 ∧ m' x2 = some (Rf q.2.2.1)) hh ⟨q.1, _, rfl, ht, rfl, ASL.cons (AS.name (ASL.cons (AS.name (ASL.nil ⟨rfl, mset_self ..⟩) (okst _ hx2)) (hce _ _ _ _ (by simp))) (okst _ hx1)) (hce _ _ _ _ (by simp))⟩ (hn _ _) (hst _ _) _ _ _ u F3 eu) (fun _ s4 ⟨H4, m4, F4, e4, hx4⟩ => ?_) fun _ _ e => e)
      have e4 := e4.symm; subst e4
      refine wpAny_bind (wpAny_mono (EV.name (x := x2) (pos := q2) (Q := fun v H' => v = Rf q.2.2.1 ∧ H' = H0) hx4 ⟨rfl, rfl⟩ hkind hxd _ s4 _ F4) (fun u' s5 ⟨H5, F5, e5, e6⟩ => ?_) fun _ _ e => e)
      have e6 := e6.symm; subst e6
      have := er_ref e5; subst this
      refine wpAny_bind (wpAny_standAt (wpAny_bind (wpAny_of_eq (hs2 _ _ _) (wpAny_bind (wpAny_holding ?_)))))
      obtain ⟨ws, nw, how, ew⟩ := F5.isList hlq
      obtain ⟨z1, z2, z3, z4⟩ := F5.newIt
      refine wpAny_pyIter_list (items := ws) ⟨_, how, rfl, nw, rfl⟩ ?_
      have F6 := F5.push (tk := s5.toks) { cls := .type "list_iterator", data := .fields #[.ref q.2.2.1, .int 0 0] }
      have atn : (Src.list q.2.2.1).at (s5.heap.push { cls := .type "list_iterator", data := .fields #[.ref q.2.2.1, .int 0 0] }) s5.heap.objs.size 0 := ⟨_, Heap.get?_push_size _ rfl, rfl, rfl⟩
      obtain ⟨F7, get7, hD7, _⟩ := F6.unguard eD2 TD
      have ndit : s5.heap.objs.size ≠ D := by
        have e0 := (F5.unguard eD2 TD).2.1
        exact Ne.symm (Nat.ne_of_lt (Heap.lt_size e0))
      have z1' : ins P' it o s5.heap.objs.size = none := by rw [ins_ne _ _ ndit] at z1; exact z1
      have hlen : ((xs.take i).flatMap fun q => q.2.2.2).length + q.2.2.2.length ≤ (xs.flatMap fun q => q.2.2.2).length := by
        have e1 : xs = xs.take i ++ q :: xs.drop (i + 1) := by
          have := List.getElem_of_getElem? hv
          obtain ⟨_, e⟩ := this
          rw [← e, List.getElem_cons_drop, List.take_append_drop]
        conv => rhs; rw [e1]
        rw [List.flatMap_append, List.flatMap_cons, List.length_append, List.length_append]; (exact om44)
      refine wpAny_bind (wpAny_runOwn (comp_inner (ys := (xs.take i).flatMap fun q => q.2.2.2) hh F7 hkind (okst _ hy) hyd hlq (by (exact om45 hsz hlen)) z1' z2 z3 z4 atn eD2 zH hLD hCD ndit get7 eys fun m' vs' nD' s6 G1 _ get6 eys6 => ?_))
      obtain ⟨G2, ho6, hI6, _⟩ := G1.unguard eit hTit
      refine wpAny_pure ⟨rfl, xs.length + 1 - (i + 1), by (exact om27 hlt), i + 1, _, vs', nD', G2, at1.keep ho ho6, hlt, rfl, get6, ?_⟩
      rw [eys6, List.take_add_one, hv]
      simp
  have at0 : (Src.list l).at h₁ it 0 := by
    obtain ⟨o, ho⟩ := hat.some
    exact hat.keep ho (keep _ _ (hatH2 o ho))
  have start : ∃ mC, RF c P' H0 (compEnvC scope (closL env.cells scope.names []) H2.objs.size env) mC { s0 with heap := h₁, toks := s0.toks + ([] : List (Str × Value)).length } ∧ (Src.list l).at h₁ it 0 ∧ h₁.get? D = some { cls := .type "list", data := .seq #[] } := ⟨_, FC, at0, keep _ _ hDn⟩
  exact codeAny_compStart_list (loop _ start) (src_self at0 (loop _ start))

theorem EX.setcomp2 {iter : Expr} {x1 x2 y z : Str} {p1 p2 tp pe py q2 pz : Pos} {kt : Nat} {scope : Scope} {pos spos : Pos} {Q : Flow → AH → Ms → Prop} (hh : A.handled = none)
    (h : EV c A env (eval iter env) H m (fun v H0 => ∃ (l : Addr) (xs : List Row2), v = Rf l ∧ H0 l = some (.list (xs.map fun q => Rf q.1)) ∧ (∀ q ∈ xs, H0 q.1 = some (.tup [q.2.1, Rf q.2.2.1]) ∧ H0 q.2.2.1 = some (.list q.2.2.2)) ∧ (xs.flatMap fun q => q.2.2.2).length ≤ 1000000 ∧
      ∀ D, H0 D = none → Q .next (upd H0 D (.list (xs.flatMap fun q => q.2.2.2))) (mset m z (Rf D))))
    (st : autoParam (stOk env z = true) autoRfl)
    (hsw : autoParam (swapsWith (.ListComp (.Name y pe) [⟨.Tuple [.Name x1 p1, .Name x2 p2] kt tp, iter, [], 0⟩, ⟨.Name y py, .Name x2 q2, [], 0⟩] scope pos) (some (.Name z pz)) spos.line env = pure true) autoRfl)
    (hf : autoParam (freeOk scope env = true) autoRfl) (hkind : autoParam (scope.kind = .function) autoRfl) (hnames : autoParam (∀ y ∈ scope.names, y.2 = .local → scope.names.lookup y.1 = some .local) autoDec) (hx1 : autoParam (scope.names.lookup x1 = some .local) autoRfl) (hx2 : autoParam (scope.names.lookup x2 = some .local) autoRfl) (hy : autoParam (scope.names.lookup y = some .local) autoRfl)
    (hyd : autoParam ((y == ("__debug__" : Str)) = false) autoDec) (hxd : autoParam ((x2 == ("__debug__" : Str)) = false) autoDec) (h12 : autoParam (x1 ≠ x2) autoDec)
    (hs : autoParam (∀ x, foldedSetIterable iter env x = pure x) autoRfl1) :
    EX c A env (exec (.Assign [.Name z pz] (.ListComp (.Name y pe) [⟨.Tuple [.Name x1 p1, .Name x2 p2] kt tp, iter, [], 0⟩, ⟨.Name y py, .Name x2 q2, [], 0⟩] scope pos) spos) env) H m Q := fun P s E F => by
  rw [exec_Assign_Name_used _ _ _ _ hsw]
  refine wpAny_bind (wpAny_standAt (wpAny_bind ?_))
  show wpAny _ A (do let _ ← comprehension (.ListComp (.Name y pe) [⟨.Tuple [.Name x1 p1, .Name x2 p2] kt tp, iter, [], 0⟩, ⟨.Name y py, .Name x2 q2, [], 0⟩] scope pos) scope env _ (newList []) false (eval iter env) (some (assign (.Name z pz) env))) _ _ s
  refine wpAny_bind (wpAny_mono (comp_core2 (use := some (assign (.Name z pz) env)) (Q := fun _ s' => ∃ H' m', RF c P H' env m' s' ∧ Q .next H' m') hh F hf hkind hnames hx1 hx2 hy hyd hxd h12 (fun _ _ => rfl) (fun _ _ => rfl) (fun t ts cl C ht => by
      simp only [List.mem_cons, List.mem_nil_iff, or_false] at ht
      rcases ht with rfl | rfl <;> rfl)
    (SRC.list (h.mono fun v H0 ⟨l, xs, e1, hl, hxs, hsz, done⟩ => ⟨l, _, e1, hl, l, xs, rfl, hl, hxs, hsz, fun D C s1 hD F1 c1 c2 c3 c4 ⟨mC, hC⟩ => ?_⟩)) hs (fun _ _ _ => rfl))
    (fun _ s' q => wpAny_pure (wpAny_pure q)) fun _ _ e => e)
  obtain ⟨oC, es, ep, hoC, hr⟩ := hC
  have T1 := F1.toRH.top_none c1
  have F2 := F1.guard hoC c1 c2 c3 c4
  show wpAny _ A (assign (.Name z pz) env (.ref D)) _ _ _
  refine wpAny_assign_Name (F2.bind st fun s2 F3 => ?_)
  obtain ⟨F4, ho4, h4, _⟩ := F3.unguard c1 T1
  exact ⟨mC, ⟨oC, es, ep, ho4, hr⟩, fun h' hs' => ⟨_, _, F4.but (tk := s2.toks) c1 h4 c3 c4 hs'.extBut, done D hD⟩⟩
end
end Mine

namespace Mine
open PySem PySem.W PySem.Calls PyProof.Rows
theorem len0 {P : List Value → Prop} (h : P []) : ∀ as : List Value, as.length = 0 → P as
  | [], _ => h
theorem lenS {n : Nat} {P : List Value → Prop} (h : ∀ a r, r.length = n → P (a :: r)) : ∀ as : List Value, as.length = n + 1 → P as
  | a :: r, e => h a r (Nat.succ.inj e)
theorem len1 {P : List Value → Prop} (h : ∀ a0, P [a0]) : ∀ as : List Value, as.length = 1 → P as := lenS fun a0 r e => len0 (P := fun r => P (a0 :: r)) (h a0) r e
theorem len2 {P : List Value → Prop} (h : ∀ a0 a1, P [a0, a1]) : ∀ as : List Value, as.length = 2 → P as := lenS fun a0 r e => len1 (P := fun r => P (a0 :: r)) (fun a1 => h a0 a1) r e
theorem len3 {P : List Value → Prop} (h : ∀ a0 a1 a2, P [a0, a1, a2]) : ∀ as : List Value, as.length = 3 → P as := lenS fun a0 r e => len2 (P := fun r => P (a0 :: r)) (fun a1 a2 => h a0 a1 a2) r e
theorem len4 {P : List Value → Prop} (h : ∀ a0 a1 a2 a3, P [a0, a1, a2, a3]) : ∀ as : List Value, as.length = 4 → P as := lenS fun a0 r e => len3 (P := fun r => P (a0 :: r)) (fun a1 a2 a3 => h a0 a1 a2 a3) r e
theorem len5 {P : List Value → Prop} (h : ∀ a0 a1 a2 a3 a4, P [a0, a1, a2, a3, a4]) : ∀ as : List Value, as.length = 5 → P as := lenS fun a0 r e => len4 (P := fun r => P (a0 :: r)) (fun a1 a2 a3 a4 => h a0 a1 a2 a3 a4) r e
theorem len6 {P : List Value → Prop} (h : ∀ a0 a1 a2 a3 a4 a5, P [a0, a1, a2, a3, a4, a5]) : ∀ as : List Value, as.length = 6 → P as := lenS fun a0 r e => len5 (P := fun r => P (a0 :: r)) (fun a1 a2 a3 a4 a5 => h a0 a1 a2 a3 a4 a5) r e
theorem len7 {P : List Value → Prop} (h : ∀ a0 a1 a2 a3 a4 a5 a6, P [a0, a1, a2, a3, a4, a5, a6]) : ∀ as : List Value, as.length = 7 → P as := lenS fun a0 r e => len6 (P := fun r => P (a0 :: r)) (fun a1 a2 a3 a4 a5 a6 => h a0 a1 a2 a3 a4 a5 a6) r e
/-- the addresses of the netlist and of the gates; the count of the first nets -/
structure Ad where
  n : Addr
  dn : Addr
  li : Addr
  lo : Addr
  lc : Addr
  g : Addr
  dg : Addr
  dm : Addr
  dop : Addr
  k0 : Int
noncomputable def nsN (x : Ad) (k : Int) : AObj := .ns [("name", S "m"), ("count", I k), ("inputs", Rf x.li), ("outputs", Rf x.lo), ("cells", Rf x.lc)]
noncomputable def nsG (x : Ad) : AObj := .ns [("netlist", Rf x.n), ("made", Rf x.dm), ("opposite", Rf x.dop)]
section
variable {c : Cx} {H : AH}
end
end Mine
namespace Mine
open PySem PySem.W PySem.Calls PyProof.Rows
noncomputable def tab (k : Str) : Nat := if k = "not" then 1 else if k = "and" then 8 else if k = "or" then 14 else if k = "xor" then 6 else 228
noncomputable def kindOK (k : Str) (n : Nat) : Prop := (k = "not" ∧ n = 1) ∨ (k = "and" ∧ n = 2) ∨ (k = "or" ∧ n = 2) ∨ (k = "xor" ∧ n = 2) ∨ (k = "mux" ∧ n = 3)
noncomputable def idx : List Bool → Nat
  | [] => 0
  | b :: r => (if b then 1 else 0) + 2 * idx r
noncomputable abbrev BV := Int → Nat → Bool
noncomputable def valT (bv : BV) (kind : Str) (ins : List Int) (r : Nat) : Bool := (tab kind).testBit (idx (ins.map (bv · r)))
theorem valT_congr {bv bv' : BV} {kind : Str} {ins : List Int} {r : Nat} (h : ∀ a ∈ ins, bv a r = bv' a r) : valT bv kind ins r = valT bv' kind ins r := by
  unfold valT; rw [List.map_congr_left h]
theorem tb1 (a : Bool) : (1 : Nat).testBit (idx [a]) = !a := by cases a <;> rfl
theorem tb8 (a b : Bool) : (8 : Nat).testBit (idx [a, b]) = (a && b) := by cases a <;> cases b <;> rfl
theorem tb14 (a b : Bool) : (14 : Nat).testBit (idx [a, b]) = (a || b) := by cases a <;> cases b <;> rfl
theorem tb6 (a b : Bool) : (6 : Nat).testBit (idx [a, b]) = (a != b) := by cases a <;> cases b <;> rfl
theorem tb228 (s a b : Bool) : (228 : Nat).testBit (idx [s, a, b]) = (if s then b else a) := by cases s <;> cases a <;> cases b <;> rfl
theorem tab_not : tab "not" = 1 := by decide
theorem tab_and : tab "and" = 8 := by decide
theorem tab_or : tab "or" = 14 := by decide
theorem tab_xor : tab "xor" = 6 := by decide
theorem tab_mux : tab "mux" = 228 := by decide
theorem valT_not {bv : BV} {a : Int} {r : Nat} : valT bv "not" [a] r = !bv a r := by unfold valT; rw [tab_not]; exact tb1 _
theorem valT_and {bv : BV} {a b : Int} {r : Nat} : valT bv "and" [a, b] r = (bv a r && bv b r) := by unfold valT; rw [tab_and]; exact tb8 _ _
theorem valT_or {bv : BV} {a b : Int} {r : Nat} : valT bv "or" [a, b] r = (bv a r || bv b r) := by unfold valT; rw [tab_or]; exact tb14 _ _
theorem valT_xor {bv : BV} {a b : Int} {r : Nat} : valT bv "xor" [a, b] r = (bv a r != bv b r) := by unfold valT; rw [tab_xor]; exact tb6 _ _
theorem valT_mux {bv : BV} {s a b : Int} {r : Nat} : valT bv "mux" [s, a, b] r = (if bv s r then bv b r else bv a r) := by unfold valT; rw [tab_mux]; exact tb228 _ _ _
structure CE where
  t : Addr
  ti : Addr
  kind : Str
  ins : List Int
noncomputable def cellAt (x : Ad) (bv : BV) (H : AH) (i : Nat) (q : CE) : Prop :=
  H q.t = some (.tup [S q.kind, I (x.k0 + i), Rf q.ti, .none]) ∧ H q.ti = some (.tup (q.ins.map I)) ∧ kindOK q.kind q.ins.length ∧ (∀ a ∈ q.ins, 0 ≤ a ∧ a < x.k0 + i) ∧ ∀ r, bv (x.k0 + i) r = valT bv q.kind q.ins r
noncomputable def madeOK (bv : BV) (k : Int) (p : List TK × Addr × Value) : Prop := ∃ kind ins o, p.1 = .s kind :: ins.map .i ∧ p.2.2 = I o ∧ 0 ≤ o ∧ o < k ∧ (∀ a ∈ ins, 0 ≤ a ∧ a < k) ∧ ∀ r, bv o r = valT bv kind ins r
noncomputable def oppOK (bv : BV) (k : Int) (p : Int × Value) : Prop := ∃ o, p.2 = I o ∧ 0 ≤ o ∧ o < k ∧ 0 ≤ p.1 ∧ p.1 < k ∧ ∀ r, bv o r = !bv p.1 r
structure ST (x : Ad) (k : Int) (bv : BV) (H : AH) : Prop where
  hn : H x.n = some (.inst 144 x.dn)
  hdn : H x.dn = some (nsN x k)
  hg : H x.g = some (.inst 221 x.dg)
  hdg : H x.dg = some (nsG x)
  hli : x.lc ≠ x.li
  hlc : ∃ cs : List CE, H x.lc = some (.list (cs.map fun q => Rf q.t)) ∧ k = x.k0 + cs.length ∧ ∀ i q, cs[i]? = some q → cellAt x bv H i q
  hdm : ∃ ms, H x.dm = some (.tdict ms) ∧ keyOK H ms ∧ ms.length ≤ k ∧ ∀ p ∈ ms, madeOK bv k p
  hop : ∃ os, H x.dop = some (.idict os) ∧ os.length ≤ 2 * k ∧ ∀ p ∈ os, oppOK bv k p
  b0 : ∀ r, bv 0 r = false
  b1 : ∀ r, bv 1 r = true
  k2 : 2 ≤ x.k0
noncomputable def Fr (x : Ad) (H H' : AH) : Prop := ∀ b o, H b = some o → b ≠ x.dn → b ≠ x.lc → b ≠ x.dm → b ≠ x.dop → H' b = some o
theorem Fr.refl {x : Ad} {H : AH} : Fr x H H := fun b o h _ _ _ _ => h
theorem Fr.trans {x : Ad} {H H1 H2 : AH} (a : Fr x H H1) (b : Fr x H1 H2) : Fr x H H2 := fun d o h h1 h2 h3 h4 => b d o (a d o h h1 h2 h3 h4) h1 h2 h3 h4
theorem Fr.new {x : Ad} {H : AH} {t : Addr} {o : AObj} (h : H t = none) : Fr x H (upd H t o) := fun b o' hb _ _ _ _ => by rw [upd_ne]; exact hb; rintro rfl; rw [h] at hb; cases hb
theorem ST.kpos {x : Ad} {k : Int} {bv : BV} {H : AH} (h : ST x k bv H) : 2 ≤ k := by
  obtain ⟨cs, _, e, _⟩ := h.hlc; have := h.k2; (exact om46 e this)
theorem ST.ne {x : Ad} {k : Int} {bv : BV} {H : AH} (h : ST x k bv H) {b : Addr} {o : AObj} (hb : H b = some o) (q : (∃ vs, o = .tup vs) ∨ (∃ vs, o = .list vs ∧ b ≠ x.lc) ∨ (∃ C d, o = .inst C d) ∨ o = nsG x ∨ (∃ kvs, o = .idict kvs ∧ b ≠ x.dop)) :
    b ≠ x.dn ∧ b ≠ x.lc ∧ b ≠ x.dm ∧ b ≠ x.dop := by
  obtain ⟨cs, h1, _⟩ := h.hlc
  obtain ⟨ms, h2, _⟩ := h.hdm
  obtain ⟨os, h3, _⟩ := h.hop
  have h4 := h.hdn
  have e1 : b = x.dn → some o = some (nsN x k) := fun e => by rw [← hb, e, h4]
  have e2 : b = x.lc → some o = some (.list (cs.map fun q => Rf q.t)) := fun e => by rw [← hb, e, h1]
  have e3 : b = x.dm → some o = some (.tdict ms) := fun e => by rw [← hb, e, h2]
  have e4 : b = x.dop → some o = some (.idict os) := fun e => by rw [← hb, e, h3]
  rcases q with ⟨vs, rfl⟩ | ⟨vs, rfl, hne⟩ | ⟨C, d, rfl⟩ | rfl | ⟨kvs, rfl, hne⟩
  · exact ⟨(fun e => nomatch e1 e), (fun e => nomatch e2 e), (fun e => nomatch e3 e), (fun e => nomatch e4 e)⟩
  · exact ⟨(fun e => nomatch e1 e), hne, (fun e => nomatch e3 e), (fun e => nomatch e4 e)⟩
  · exact ⟨(fun e => nomatch e1 e), (fun e => nomatch e2 e), (fun e => nomatch e3 e), (fun e => nomatch e4 e)⟩
  · refine ⟨fun e => ?_, (fun e => nomatch e2 e), (fun e => nomatch e3 e), (fun e => nomatch e4 e)⟩
    have := e1 e
    unfold nsN nsG at this
    simp at this
  · exact ⟨(fun e => nomatch e1 e), (fun e => nomatch e2 e), (fun e => nomatch e3 e), hne⟩
section
variable {x : Ad} {k : Int} {bv : BV} {H H' : AH}
theorem ST.tup (h : ST x k bv H) (f : Fr x H H') {t : Addr} {vs : List Value} (ht : H t = some (.tup vs)) : H' t = some (.tup vs) := by
  obtain ⟨a, b, d, e⟩ := h.ne ht (.inl ⟨_, rfl⟩); exact f _ _ ht a b d e
theorem ST.lst (h : ST x k bv H) (f : Fr x H H') {t : Addr} {vs : List Value} (ht : H t = some (.list vs)) (hn : t ≠ x.lc) : H' t = some (.list vs) := by
  obtain ⟨a, b, d, e⟩ := h.ne ht (.inr (.inl ⟨_, rfl, hn⟩)); exact f _ _ ht a b d e
/-- a new object does no harm -/
theorem ST.fresh (h : ST x k bv H) {t : Addr} {o : AObj} (ht : H t = none) : ST x k bv (upd H t o) := by
  have up : ∀ {b o'}, H b = some o' → upd H t o b = some o' := fun {b o'} hb => by rw [upd_ne]; exact hb; rintro rfl; rw [ht] at hb; cases hb
  obtain ⟨cs, h1, h2, h3⟩ := h.hlc
  obtain ⟨ms, h4, h5, h6, h7⟩ := h.hdm
  obtain ⟨os, h8, h9, h10⟩ := h.hop
  exact ⟨up h.hn, up h.hdn, up h.hg, up h.hdg, h.hli, ⟨cs, up h1, h2, fun i q e => let ⟨a, b, d⟩ := h3 i q e; ⟨up a, up b, d⟩⟩, ⟨ms, up h4, fun p hp => up (h5 p hp), h6, h7⟩, ⟨os, up h8, h9, h10⟩, h.b0, h.b1, h.k2⟩
theorem ST.setMade (h : ST x k bv H) {ms : List (List TK × Addr × Value)} (hk : keyOK H ms) (hz : ms.length ≤ k) (ho : ∀ p ∈ ms, madeOK bv k p) : ST x k bv (upd H x.dm (.tdict ms)) := by
  obtain ⟨cs, h1, h2, h3⟩ := h.hlc
  obtain ⟨ms0, h4, h5, h6, h7⟩ := h.hdm
  obtain ⟨os, h8, h9, h10⟩ := h.hop
  have up : ∀ {b o'}, H b = some o' → b ≠ x.dm → upd H x.dm (.tdict ms) b = some o' := fun {b o'} hb n => by rw [upd_ne _ _ n]; exact hb
  have tp : ∀ {b vs}, H b = some (.tup vs) → upd H x.dm (.tdict ms) b = some (.tup vs) := fun {b vs} hb => up hb (by rintro rfl; rw [h4] at hb; cases hb)
  refine ⟨up h.hn ?_, up h.hdn ?_, up h.hg ?_, up h.hdg ?_, h.hli, ⟨cs, up h1 ?_, h2, fun i q e => let ⟨a, b, d⟩ := h3 i q e; ⟨tp a, tp b, d⟩⟩, ⟨ms, upd_self .., fun p hp => tp (hk p hp), hz, ho⟩, ⟨os, up h8 ?_, h9, h10⟩, h.b0, h.b1, h.k2⟩
  · intro e; have := h.hn; rw [e, h4] at this; cases this
  · intro e; have := h.hdn; rw [e, h4] at this; cases this
  · intro e; have := h.hg; rw [e, h4] at this; cases this
  · intro e; have := h.hdg; rw [e, h4] at this; cases this
  · intro e; rw [e, h4] at h1; cases h1
  · intro e; rw [e, h4] at h8; cases h8
theorem ST.setOpp (h : ST x k bv H) {os : List (Int × Value)} (hz : os.length ≤ 2 * k) (ho : ∀ p ∈ os, oppOK bv k p) : ST x k bv (upd H x.dop (.idict os)) := by
  obtain ⟨cs, h1, h2, h3⟩ := h.hlc
  obtain ⟨ms, h4, h5, h6, h7⟩ := h.hdm
  obtain ⟨os0, h8, h9, h10⟩ := h.hop
  have up : ∀ {b o'}, H b = some o' → b ≠ x.dop → upd H x.dop (.idict os) b = some o' := fun {b o'} hb n => by rw [upd_ne _ _ n]; exact hb
  have tp : ∀ {b vs}, H b = some (.tup vs) → upd H x.dop (.idict os) b = some (.tup vs) := fun {b vs} hb => up hb (by rintro rfl; rw [h8] at hb; cases hb)
  refine ⟨up h.hn ?_, up h.hdn ?_, up h.hg ?_, up h.hdg ?_, h.hli, ⟨cs, up h1 ?_, h2, fun i q e => let ⟨a, b, d⟩ := h3 i q e; ⟨tp a, tp b, d⟩⟩, ⟨ms, up h4 ?_, fun p hp => tp (h5 p hp), h6, h7⟩, ⟨os, upd_self .., hz, ho⟩, h.b0, h.b1, h.k2⟩
  · intro e; have := h.hn; rw [e, h8] at this; cases this
  · intro e; have := h.hdn; rw [e, h8] at this; cases this
  · intro e; have := h.hg; rw [e, h8] at this; cases this
  · intro e; have := h.hdg; rw [e, h8] at this; cases this
  · intro e; rw [e, h8] at h1; cases h1
  · intro e; rw [e, h8] at h4; cases h4
theorem ST.addCell (h : ST x k bv H) {kind : Str} {ins : List Int} {ti t : Addr} {vs : List Value} (hv : H x.lc = some (.list vs)) (hti : H ti = some (.tup (ins.map I))) (hk : kindOK kind ins.length) (hin : ∀ a ∈ ins, 0 ≤ a ∧ a < k)
    (ht : upd H x.dn (nsN x (k + 1)) t = none) (e : H' = upd (upd (upd H x.dn (nsN x (k + 1))) t (.tup [S kind, I k, Rf ti, .none])) x.lc (.list (vs ++ [Rf t]))) :
    ∃ bv', ST x (k + 1) bv' H' ∧ (∀ a r, a < k → bv' a r = bv a r) ∧ (∀ r, bv' k r = valT bv kind ins r) ∧ Fr x H H' ∧ H' x.dm = H x.dm ∧ H' x.dop = H x.dop := by
  obtain ⟨cs, h1, h2, h3⟩ := h.hlc
  obtain ⟨ms, h4, h5, h6, h7⟩ := h.hdm
  obtain ⟨os, h8, h9, h10⟩ := h.hop
  have hk2 := h.kpos
  rw [h1] at hv; cases hv
  have ndt : t ≠ x.dn := by rintro rfl; rw [upd_self] at ht; cases ht
  have hHt : H t = none := by rw [upd_ne _ _ ndt] at ht; exact ht
  have nlt : x.lc ≠ t := by rintro rfl; rw [h1] at hHt; cases hHt
  have nld : x.lc ≠ x.dn := by intro e; have := h.hdn; rw [← e, h1] at this; cases this
  have up : ∀ {b o'}, H b = some o' → b ≠ x.dn → b ≠ x.lc → H' b = some o' := fun {b o'} hb n1 n2 => by
    rw [e, upd_ne _ _ n2, upd_ne, upd_ne _ _ n1]; exact hb
    rintro rfl; rw [hHt] at hb; cases hb
  have tp : ∀ {b vs}, H b = some (.tup vs) → H' b = some (.tup vs) := fun {b vs} hb => let ⟨a, b, _⟩ := h.ne hb (.inl ⟨_, rfl⟩); up hb a b
  let bv' : BV := fun a r => if a = k then valT bv kind ins r else bv a r
  have lo : ∀ a r, a < k → bv' a r = bv a r := fun a r ha => if_neg (by (exact om47 h2 ha))
  have at' : ∀ r, bv' k r = valT bv kind ins r := fun r => if_pos rfl
  have same : ∀ (kd : Str) (l : List Int) r, (∀ a ∈ l, a < k) → valT bv' kd l r = valT bv kd l r := fun kd l r hl => valT_congr fun a ha => lo a r (hl a ha)
  refine ⟨bv', ⟨?_, ?_, ?_, ?_, h.hli, ⟨cs ++ [⟨t, ti, kind, ins⟩], ?_, by simp; (exact om48 h2), fun i q hq => ?_⟩, ⟨ms, ?_, fun p hp => tp (h5 p hp), by (exact om49 h2 h6), fun p hp => ?_⟩, ⟨os, ?_, by (exact om50 h2 h9), fun p hp => ?_⟩, fun r => by rw [lo 0 r (by (exact om51 h2 hk2))]; exact h.b0 r, fun r => by rw [lo 1 r (by (exact om52 h2 hk2))]; exact h.b1 r, h.k2⟩, lo, at', ?_, ?_, ?_⟩
  · obtain ⟨a, b, _⟩ := h.ne h.hn (.inr (.inr (.inl ⟨_, _, rfl⟩))); exact up h.hn a b
  · rw [e, upd_ne _ _ (Ne.symm nld), upd_ne _ _ (Ne.symm ndt)]; exact upd_self ..
  · obtain ⟨a, b, _⟩ := h.ne h.hg (.inr (.inr (.inl ⟨_, _, rfl⟩))); exact up h.hg a b
  · obtain ⟨a, b, _⟩ := h.ne h.hdg (.inr (.inr (.inr (.inl rfl)))); exact up h.hdg a b
  · rw [e, upd_self]; simp
  · by_cases hi : i < cs.length
    · rw [List.getElem?_append_left hi] at hq
      obtain ⟨a, b, d, f, g⟩ := h3 i q hq
      exact ⟨tp a, tp b, d, f, fun r => by rw [lo _ r (by (exact om53 h2 hi)), g r, same _ _ _ fun a ha => by have := (f a ha).2; (exact om54 h2 hi this)]⟩
    · rw [List.getElem?_append_right (by (exact om55 hi))] at hq
      have hi0 : i - cs.length = 0 := by
        have := (List.getElem?_eq_some_iff.mp hq).1
        simp at this; omega
      rw [hi0] at hq; cases hq
      have ei : x.k0 + (i : Int) = k := by (exact om56 h2 hi hi0)
      refine ⟨?_, tp hti, hk, fun a ha => by rw [ei]; exact hin a ha, fun r => ?_⟩
      · rw [e, upd_ne _ _ (Ne.symm nlt), upd_self, ei]
      · rw [ei, at', same _ _ _ fun a ha => (hin a ha).2]
  · refine up h4 ?_ ?_
    · intro e; have := h.hdn; rw [← e, h4] at this; cases this
    · intro e; rw [← e, h4] at h1; cases h1
  · obtain ⟨kd, l, o, a1, a2, a3, a4, a5, a6⟩ := h7 p hp
    exact ⟨kd, l, o, a1, a2, a3, by (exact om57 h2 a4), fun a ha => by have := a5 a ha; (exact om58 h2 this), fun r => by rw [lo _ r a4, a6 r, same _ _ _ fun a ha => (a5 a ha).2]⟩
  · refine up h8 ?_ ?_
    · intro e; have := h.hdn; rw [← e, h8] at this; cases this
    · intro e; rw [← e, h8] at h1; cases h1
  · obtain ⟨o, a1, a2, a3, a4, a5, a6⟩ := h10 p hp
    exact ⟨o, a1, a2, by (exact om57 h2 a3), a4, by (exact om57 h2 a5), fun r => by rw [lo _ r a3, lo _ r a5, a6 r]⟩
  · intro b o hb n1 n2 _ _; exact up hb n1 n2
  · rw [h4]; refine up h4 ?_ ?_
    · intro e; have := h.hdn; rw [← e, h4] at this; cases this
    · intro e; rw [← e, h4] at h1; cases h1
  · rw [h8]; refine up h8 ?_ ?_
    · intro e; have := h.hdn; rw [← e, h8] at this; cases this
    · intro e; rw [← e, h8] at h1; cases h1
/-- one step of the gates: the state goes on, older nets keep their values -/
structure Step (x : Ad) (k : Int) (bv : BV) (H : AH) (k' : Int) (bv' : BV) (H' : AH) (sp : Int) : Prop where
  st : ST x k' bv' H'
  le : k ≤ k'
  up : k' ≤ k + sp
  old : ∀ a r, a < k → bv' a r = bv a r
  fr : Fr x H H'
theorem Step.refl (h : ST x k bv H) {sp : Int} (hs : 0 ≤ sp) : Step x k bv H k bv H sp := ⟨h, Int.le_refl _, by (exact om59 hs), fun _ _ _ => rfl, Fr.refl⟩
theorem Step.trans {k1 k2 sp1 sp2 : Int} {bv1 bv2 : BV} {H1 H2 : AH} (a : Step x k bv H k1 bv1 H1 sp1) (b : Step x k1 bv1 H1 k2 bv2 H2 sp2) : Step x k bv H k2 bv2 H2 (sp1 + sp2) :=
  ⟨b.st, Int.le_trans a.le b.le, by have := a.up; have := b.up; (exact om60 (by assumption) this), fun n r hn => by rw [b.old n r (by have := a.le; (exact om61 hn this)), a.old n r hn], a.fr.trans b.fr⟩
theorem Step.sp {k1 sp1 sp2 : Int} {bv1 : BV} {H1 : AH} (a : Step x k bv H k1 bv1 H1 sp1) (h : sp1 ≤ sp2) : Step x k bv H k1 bv1 H1 sp2 := ⟨a.st, a.le, by have := a.up; (exact om62 h this), a.old, a.fr⟩
end
end Mine
namespace Mine
open PySem PySem.W PySem.Calls PyProof.Rows
theorem ite_intro {t : Bool} {P Q : Prop} (h1 : t = true → P) (h2 : t = false → Q) : if t = true then P else Q := by
  cases t
  · exact h2 rfl
  · exact h1 rfl
section
variable {c : Cx} {H : AH} {env : Env} {m : Ms} {A : Around}
theorem EX.ifret {test e : Expr} {rpos pos : Pos} {rest : List Stmt} {Q : Flow → AH → Ms → Prop} (h : IT c A env test H m (fun t H1 => if t then EV c A env (eval e env) H1 m (fun v H2 => Q (.ret v) H2 m) else EX c A env (execs rest env) H1 m Q)) :
    EX c A env (execs (.If test [.Return (some e) rpos] [] pos :: rest) env) H m Q :=
  EX.cons (EX.ite (h.mono fun t H1 q => by
    cases t
    · rw [if_neg Bool.false_ne_true] at q ⊢
      exact EX.nil q
    · rw [if_pos rfl] at q ⊢
      exact EX.cons (EX.ret (EV.mono q fun _ _ z => z))))
end
theorem valueAt_mem {α : Type} [DecidableEq α] {kvs : List (α × Value)} {k : α} {v : Value} (h : valueAt kvs k = some v) : (k, v) ∈ kvs := by
  unfold valueAt at h
  obtain ⟨p, hp, e⟩ := Option.map_eq_some_iff.mp h
  have h1 := List.mem_of_find?_eq_some hp
  have h2 := List.find?_some hp
  obtain ⟨a, b⟩ := p
  have : a = k := of_decide_eq_true h2
  subst this; cases e; exact h1
theorem atKey_mem {ms : List (List TK × Addr × Value)} {k : List TK} {p : Addr × Value} (h : atKey ms k = some p) : (k, p) ∈ ms := by
  unfold atKey at h
  obtain ⟨q, hp, e⟩ := Option.map_eq_some_iff.mp h
  have h1 := List.mem_of_find?_eq_some hp
  have h2 := List.find?_some hp
  obtain ⟨a, b⟩ := q
  have : a = k := of_decide_eq_true h2
  subst this; cases e; exact h1
inductive GP (x : Ad) (k : Int) (bv : BV) (H : AH) (sp : Int) (φ : Nat → Bool) (r : Value) (H' : AH) : Prop
  | mk (o k' : Int) (bv' : BV) (e : r = I o) (s : Step x k bv H k' bv' H' sp) (h0 : 0 ≤ o) (h1 : o < k') (h : ∀ i, bv' o i = φ i) : GP x k bv H sp φ r H'
section
variable {c : Cx} {H : AH} {x : Ad} {k : Int} {bv : BV}
theorem GP.here (h : ST x k bv H) {sp : Int} (hs : 0 ≤ sp) {o : Int} (h0 : 0 ≤ o) (h1 : o < k) {φ : Nat → Bool} (e : ∀ i, bv o i = φ i) : GP x k bv H sp φ (I o) H := ⟨o, k, bv, rfl, Step.refl h hs, h0, h1, e⟩
theorem GP.congr {sp : Int} {φ ψ : Nat → Bool} {r : Value} {H' : AH} (h : GP x k bv H sp φ r H') (e : ∀ i, φ i = ψ i) : GP x k bv H sp ψ r H' := by
  obtain ⟨o, k', bv', a, b, d, f, g⟩ := h; exact ⟨o, k', bv', a, b, d, f, fun i => (g i).trans (e i)⟩
theorem GP.sp {sp sp' : Int} {φ : Nat → Bool} {r : Value} {H' : AH} (h : GP x k bv H sp φ r H') (e : sp ≤ sp') : GP x k bv H sp' φ r H' := by
  obtain ⟨o, k', bv', a, b, d, f, g⟩ := h; exact ⟨o, k', bv', a, b.sp e, d, f, g⟩
end
end Mine
namespace Mine
open PySem PySem.W PySem.Calls PyProof.Rows
theorem if_tt {P Q : Prop} (h : P) : if true = true then P else Q := by rw [if_pos rfl]; exact h
theorem if_ff {P Q : Prop} (h : Q) : if false = true then P else Q := by rw [if_neg Bool.false_ne_true]; exact h
theorem stored_new {α : Type} [DecidableEq α] {kvs : List (α × Value)} {k : α} {v : Value} (h : valueAt kvs k = none) : stored kvs k v = kvs ++ [(k, v)] := by
  unfold stored
  rw [if_neg]
  intro q
  obtain ⟨p, hp, e⟩ := List.any_eq_true.mp q
  unfold valueAt at h
  rw [Option.map_eq_none_iff, List.find?_eq_none] at h
  exact h p hp e
theorem valueAt_none {α : Type} [DecidableEq α] {kvs : List (α × Value)} {k : α} (h : ∀ p ∈ kvs, p.1 ≠ k) : valueAt kvs k = none := by
  unfold valueAt
  rw [Option.map_eq_none_iff, List.find?_eq_none]
  intro p hp; simpa using h p hp
theorem valueAt_app {α : Type} [DecidableEq α] {a b : List (α × Value)} {k : α} (h : valueAt a k = none) : valueAt (a ++ b) k = valueAt b k := by
  unfold valueAt at *
  rw [Option.map_eq_none_iff] at h
  rw [List.find?_append, h]; rfl
theorem valueAt_one {α : Type} [DecidableEq α] {r : List (α × Value)} {k : α} {v : Value} : valueAt ((k, v) :: r) k = some v := by
  unfold valueAt; simp
section
variable {c : Cx} {H : AH} {x : Ad} {k : Int} {bv : BV}
theorem mm_and {a b : Int} {r : Nat} : valT bv "and" [if b < a then b else a, if b > a then b else a] r = (bv a r && bv b r) := by
  rw [valT_and]
  rcases Int.lt_trichotomy a b with h | h | h
  · rw [if_neg (by (exact om83 h)), if_pos (by omega)]
  · subst h; simp
  · rw [if_pos (by omega), if_neg (by (exact om84 h)), Bool.and_comm]
theorem mm_or {a b : Int} {r : Nat} : valT bv "or" [if b < a then b else a, if b > a then b else a] r = (bv a r || bv b r) := by
  rw [valT_or]
  rcases Int.lt_trichotomy a b with h | h | h
  · rw [if_neg (by (exact om83 h)), if_pos (by omega)]
  · subst h; simp
  · rw [if_pos (by omega), if_neg (by (exact om84 h)), Bool.or_comm]
theorem mm_xor {a b : Int} {r : Nat} : valT bv "xor" [if b < a then b else a, if b > a then b else a] r = (bv a r != bv b r) := by
  rw [valT_xor]
  rcases Int.lt_trichotomy a b with h | h | h
  · rw [if_neg (by (exact om83 h)), if_pos (by omega)]
  · subst h; simp
  · rw [if_pos (by omega), if_neg (by (exact om84 h)), show (bv a r != bv b r) = (bv b r != bv a r) from by cases bv a r <;> cases bv b r <;> rfl]
end
end Mine
namespace Mine
open PySem PySem.W PySem.Calls PyProof.Rows
section
variable {c : Cx} {H : AH} {x : Ad} {k : Int} {bv : BV}
theorem GP.after {k1 sp1 sp2 : Int} {bv1 : BV} {H1 H' : AH} {φ : Nat → Bool} {r : Value} (q : GP x k1 bv1 H1 sp2 φ r H') (s : Step x k bv H k1 bv1 H1 sp1) : GP x k bv H (sp1 + sp2) φ r H' := by
  obtain ⟨o, k', bv', a, b, d, f, g⟩ := q; exact ⟨o, k', bv', a, s.trans b, d, f, g⟩
end
end Mine
namespace Mine
open PySem PySem.W PySem.Calls PyProof.Rows
noncomputable def Has (m : Ms) : List (Str × Value) → Prop
  | [] => True
  | (x, v) :: r => m x = some v ∧ Has m r
theorem Has.get {m : Ms} {l : List (Str × Value)} (h : Has m l) {x : Str} {v : Value} (e : l.lookup x = some v) : m x = some v := by
  induction l with
  | nil => cases e
  | cons p r ih =>
    obtain ⟨y, w⟩ := p
    rw [List.lookup_cons] at e
    by_cases q : x = y
    · subst q; rw [beq_self_eq_true] at e; cases e; exact h.1
    · rw [beq_eq_false_iff_ne.mpr q] at e; exact ih h.2 e
theorem Has.set {m : Ms} {l : List (Str × Value)} (h : Has m l) {x : Str} {v : Value} (e : autoParam ((l.any fun p => p.1 == x) = false) autoRfl) : Has (mset m x v) l := by
  induction l with
  | nil => trivial
  | cons p r ih =>
    obtain ⟨y, w⟩ := p
    rw [List.any_cons, Bool.or_eq_false_iff] at e
    exact ⟨by rw [mset_ne _ _ (beq_eq_false_iff_ne.mp e.1)]; exact h.1, ih h.2 e.2⟩
section
variable {x : Ad} {k k' sp : Int} {bv bv' : BV} {H H' : AH}
theorem ST.newne (h : ST x k bv H) {D : Addr} (hD : H D = none) : D ≠ x.lc ∧ D ≠ x.dn ∧ D ≠ x.dm ∧ D ≠ x.dop := by
  obtain ⟨cs, h1, _⟩ := h.hlc
  obtain ⟨ms, h2, _⟩ := h.hdm
  obtain ⟨os, h3, _⟩ := h.hop
  have h4 := h.hdn
  refine ⟨?_, ?_, ?_, ?_⟩ <;> rintro rfl <;> simp_all
theorem Step.none (s : Step x k bv H k' bv' H' sp) {D : Addr} (hD : H' D = none) : H D = none := by
  cases q : H D with
  | none => rfl
  | some o =>
    obtain ⟨a, b, d, e⟩ := s.st.newne hD
    rw [s.fr _ _ q b a d e] at hD; cases hD
theorem Step.alloc (s : Step x k bv H k' bv' H' sp) {D : Addr} (hD : H' D = Option.none) (o : AObj) : Step x k bv H k' bv' (upd H' D o) sp :=
  ⟨s.st.fresh hD, s.le, s.up, s.old, s.fr.trans (Fr.new hD)⟩
theorem ST.setL (h : ST x k bv H) {D : Addr} {xs ys : List Value} (hD : H D = some (.list xs)) (n : D ≠ x.lc) : ST x k bv (upd H D (.list ys)) := by
  obtain ⟨cs, h1, h2, h3⟩ := h.hlc
  obtain ⟨ms, h4, h5, h6, h7⟩ := h.hdm
  obtain ⟨os, h8, h9, h10⟩ := h.hop
  have up : ∀ {b o'}, H b = some o' → (∀ vs, o' ≠ .list vs) → upd H D (.list ys) b = some o' := fun {b o'} hb q => by
    rw [upd_ne]; exact hb
    rintro rfl; rw [hD] at hb; cases hb; exact q _ rfl
  refine ⟨up h.hn (fun _ e => nomatch e), up h.hdn (fun _ e => nomatch e), up h.hg (fun _ e => nomatch e), up h.hdg (fun _ e => nomatch e), h.hli, ⟨cs, ?_, h2, fun i q e => let ⟨a, b, d⟩ := h3 i q e; ⟨up a (fun _ e => nomatch e), up b (fun _ e => nomatch e), d⟩⟩,
    ⟨ms, up h4 (fun _ e => nomatch e), fun p hp => up (h5 p hp) (fun _ e => nomatch e), h6, h7⟩, ⟨os, up h8 (fun _ e => nomatch e), h9, h10⟩, h.b0, h.b1, h.k2⟩
  rw [upd_ne _ _ (Ne.symm n)]; exact h1
theorem Step.setL (s : Step x k bv H k' bv' H' sp) {D : Addr} {xs ys : List Value} (h0 : H D = Option.none) (hD : H' D = some (.list xs)) (n : D ≠ x.lc) : Step x k bv H k' bv' (upd H' D (.list ys)) sp :=
  ⟨s.st.setL hD n, s.le, s.up, s.old, fun b o hb h1 h2 h3 h4 => by
    rw [upd_ne]; exact s.fr b o hb h1 h2 h3 h4
    rintro rfl; rw [h0] at hb; cases hb⟩
/-- each of the nets is in range and has its meaning -/
noncomputable def Sp (k : Int) (bv : BV) (ns : List Int) (φ : Nat → Nat → Bool) : Prop := ∀ j a, ns[j]? = some a → 0 ≤ a ∧ a < k ∧ ∀ r, bv a r = φ j r
theorem Sp.nil {φ : Nat → Nat → Bool} : Sp k bv [] φ := fun j a h => by simp at h
theorem Sp.mono {ns : List Int} {φ : Nat → Nat → Bool} (q : Sp k bv ns φ) (s : Step x k bv H k' bv' H' sp) : Sp k' bv' ns φ := fun j a h =>
  let ⟨a1, a2, a3⟩ := q j a h
  ⟨a1, by have := s.le; (exact om61 a2 this), fun r => by rw [s.old _ _ a2]; exact a3 r⟩
theorem Sp.push {ns : List Int} {φ : Nat → Nat → Bool} (q : Sp k bv ns φ) {a : Int} (h0 : 0 ≤ a) (h1 : a < k) (h2 : ∀ r, bv a r = φ ns.length r) : Sp k bv (ns ++ [a]) φ := fun j b h => by
  by_cases z : j < ns.length
  · rw [List.getElem?_append_left z] at h; exact q j b h
  · rw [List.getElem?_append_right (by (exact om55 z))] at h
    have hj : j - ns.length = 0 := by have := (List.getElem?_eq_some_iff.mp h).1; simp at this; omega
    rw [hj] at h; cases h
    have : j = ns.length := by (exact om94 z hj)
    subst this; exact ⟨h0, h1, h2⟩
theorem Sp.congr {ns : List Int} {φ ψ : Nat → Nat → Bool} (q : Sp k bv ns φ) (e : ∀ j r, j < ns.length → φ j r = ψ j r) : Sp k bv ns ψ := fun j a h =>
  let ⟨a1, a2, a3⟩ := q j a h
  ⟨a1, a2, fun r => (a3 r).trans (e j r (List.getElem?_eq_some_iff.mp h).1)⟩
theorem Sp.set {ns : List Int} {φ ψ : Nat → Nat → Bool} (q : Sp k bv ns φ) {i : Nat} {a : Int} (h0 : 0 ≤ a) (h1 : a < k) (h2 : ∀ r, bv a r = ψ i r) (e : ∀ j r, j ≠ i → φ j r = ψ j r) : Sp k bv (ns.set i a) ψ := fun j b h => by
  by_cases z : j = i
  · subst z
    have hl := (List.getElem?_eq_some_iff.mp h).1
    rw [List.length_set] at hl
    rw [List.getElem?_set_self hl] at h; cases h; exact ⟨h0, h1, h2⟩
  · rw [List.getElem?_set_ne (Ne.symm z)] at h
    obtain ⟨a1, a2, a3⟩ := q j b h
    exact ⟨a1, a2, fun r => (a3 r).trans (e j r z)⟩
end
/-- a new list of nets -/
inductive LP (x : Ad) (k : Int) (bv : BV) (H : AH) (sp : Int) (n : Nat) (φ : Nat → Nat → Bool) (r : Value) (H' : AH) : Prop
  | mk (D : Addr) (ns : List Int) (k' : Int) (bv' : BV) (e : r = Rf D) (s : Step x k bv H k' bv' H' sp) (h0 : H D = none) (nl : D ≠ x.lc) (hD : H' D = some (.list (ns.map I))) (hl : ns.length = n) (hs : Sp k' bv' ns φ) : LP x k bv H sp n φ r H'
noncomputable def fitsB (sg : Bool) (v n : Int) : Bool := if sg then decide (-(1 * 2 ^ (n-1).toNat) ≤ v) && decide (v < 1 * 2 ^ (n-1).toNat) else decide (0 ≤ v) && decide (v < 1 * 2 ^ n.toNat)
noncomputable def bt (v : Int) (p : Nat) : Bool := Builtin.bitAnd (v.fdiv (2 ^ ((p : Nat) : Int).toNat)) 1 != 0
noncomputable def iv (sg : Bool) (bs : List Bool) : Int := if sg && decide ((2 : Int) ^ (bs.length - 1) ≤ idx bs) then (idx bs : Int) - 2 ^ bs.length else idx bs
theorem fin1 {sg : Bool} {v : Int} (hf : fitsB sg v 1 = true) (a : Bool) : (bt v 0 == a) = decide (iv sg [a] = v) := by
  cases sg
  · have : 0 ≤ v ∧ v < 2 := by simpa [fitsB] using hf
    have : v = 0 ∨ v = 1 := by (exact om95 this)
    rcases this with rfl | rfl <;> cases a <;> decide
  · have : -1 ≤ v ∧ v < 1 := by simpa [fitsB] using hf
    have : v = -1 ∨ v = 0 := by (exact om96 this)
    rcases this with rfl | rfl <;> cases a <;> decide
theorem fin2 {sg : Bool} {v : Int} (hf : fitsB sg v 2 = true) (a b : Bool) : ((bt v 0 == a) && (bt v 1 == b)) = decide (iv sg [a, b] = v) := by
  cases sg
  · have : 0 ≤ v ∧ v < 4 := by simpa [fitsB] using hf
    have : v = 0 ∨ v = 1 ∨ v = 2 ∨ v = 3 := by (exact om97 this)
    rcases this with rfl | rfl | rfl | rfl <;> cases a <;> cases b <;> decide
  · have : -2 ≤ v ∧ v < 2 := by simpa [fitsB] using hf
    have : v = -2 ∨ v = -1 ∨ v = 0 ∨ v = 1 := by (exact om98 this)
    rcases this with rfl | rfl | rfl | rfl <;> cases a <;> cases b <;> decide
theorem iv_range1 (sg a : Bool) : fitsB sg (iv sg [a]) 1 = true := by cases sg <;> cases a <;> decide
theorem iv_range2 (sg a b : Bool) : fitsB sg (iv sg [a, b]) 2 = true := by cases sg <;> cases a <;> cases b <;> decide
theorem hits_fin {sg : Bool} {v : Int} {bs : List Bool} (hl : bs.length = 1 ∨ bs.length = 2) (hf : fitsB sg v bs.length = true) : ((List.range bs.length).all fun j => bt v j == bs.getD j false) = decide (iv sg bs = v) := by
  match bs, hl with
  | [a], _ => rw [← fin1 hf]; simp [List.range_succ]
  | [a, b], _ => rw [← fin2 hf]; simp [List.range_succ]
theorem hits_nofin {sg : Bool} {v : Int} {bs : List Bool} (hl : bs.length = 1 ∨ bs.length = 2) (hf : fitsB sg v bs.length = false) : decide (iv sg bs = v) = false := by
  refine decide_eq_false fun e => ?_
  subst e
  match bs, hl, hf with
  | [a], _, hf => have := iv_range1 sg a; simp at hf; rw [hf] at this; cases this
  | [a, b], _, hf => have := iv_range2 sg a b; simp at hf; rw [hf] at this; cases this
section
variable {c : Cx} {H : AH} {x : Ad} {k : Int} {bv : BV}
end
end Mine
namespace Mine
open PySem PySem.W PySem.Calls PyProof.Rows
theorem getI {ns : List Int} {i : Nat} {v : Value} (h : (ns.map I)[i]? = some v) : ∃ a, ns[i]? = some a ∧ v = I a ∧ a ∈ ns ∧ i < ns.length ∧ ns.getD i 0 = a := by
  rw [List.getElem?_map] at h
  obtain ⟨a, ha, rfl⟩ := Option.map_eq_some_iff.mp h
  exact ⟨a, ha, rfl, List.mem_of_getElem? ha, (List.getElem?_eq_some_iff.mp ha).1, by rw [List.getD_eq_getElem?_getD, ha]; rfl⟩
theorem atI {ns : List Int} {i : Nat} (h : i < ns.length) : ∃ a, ns[i]? = some a ∧ (ns.map I)[((i : Nat) : Int).toNat]? = some (I a) ∧ a ∈ ns ∧ ns.getD i 0 = a :=
  ⟨ns[i], List.getElem?_eq_getElem h, by rw [Int.toNat_natCast, List.getElem?_map, List.getElem?_eq_getElem h]; rfl, List.getElem_mem h, by rw [List.getD_eq_getElem?_getD, List.getElem?_eq_getElem h]; rfl⟩
theorem all_succ {n : Nat} {f : Nat → Bool} : (List.range (n + 1)).all f = ((List.range n).all f && f n) := by rw [List.range_succ, List.all_append]; simp
theorem beq_t {a b : Bool} (h : a = true) : (a == b) = b := by rw [h]; cases b <;> rfl
theorem beq_f {a b : Bool} (h : a = false) : (a == b) = !b := by rw [h]; cases b <;> rfl
section
variable {c : Cx} {H : AH} {x : Ad} {k : Int} {bv : BV}
end
end Mine
namespace Mine
open PySem PySem.W PySem.Calls PyProof.Rows
theorem fmod_pm {lo step : Int} (h : step = 1 ∨ step = -1) : lo.fmod step = 0 := by
  rcases h with rfl | rfl
  · exact Int.fmod_one ..
  · rw [Int.fmod_eq_emod]; simp
theorem fdiv_pm {lo step : Int} (h : step = 1 ∨ step = -1) : lo.fdiv step = lo * step := by
  rcases h with rfl | rfl
  · simp
  · rw [Int.fdiv_eq_ediv]; simp
/-- the rows of a part select: address, place, net -/
noncomputable abbrev RWL := List (Addr × Int × Int)
noncomputable def RWs (k : Int) (bv : BV) (H : AH) (D : Addr) (RW : RWL) (low : Nat → Int) : Prop :=
  H D = some (.list (RW.map fun q => Rf q.1)) ∧ ∀ q ∈ RW, H q.1 = some (.tup [I q.2.1, I q.2.2]) ∧ 0 ≤ q.2.2 ∧ q.2.2 < k ∧ -10 ≤ q.2.1 ∧ q.2.1 ≤ 10 ∧ ∀ r, bv q.2.2 r = decide (q.2.1 = low r)
noncomputable def lowOf (sg : Bool) (ins : List Int) (bv : BV) (base step : Int) (r : Nat) : Int := (iv sg (ins.map (bv · r)) - base) * step
section
variable {c : Cx} {H : AH} {x : Ad} {k : Int} {bv : BV}
theorem RWs.mono {D : Addr} {RW : RWL} {low : Nat → Int} {k' sp : Int} {bv' : BV} {H' : AH} (h : ST x k bv H) (q : RWs k bv H D RW low) (n : D ≠ x.lc) (s : Step x k bv H k' bv' H' sp) : RWs k' bv' H' D RW low :=
  ⟨h.lst s.fr q.1 n, fun p hp => let ⟨a1, a2, a3, a4, a5, a6⟩ := q.2 p hp; ⟨h.tup s.fr a1, a2, by have := s.le; (exact om61 a3 this), a4, a5, fun r => by rw [s.old _ _ a3]; exact a6 r⟩⟩
end
end Mine
namespace Mine
open PySem PySem.W PySem.Calls PyProof.Rows
theorem any_take {α : Type} {l : List α} {f : α → Bool} {j : Nat} {q : α} (h : l[j]? = some q) : (l.take (j + 1)).any f = ((l.take j).any f || f q) := by
  rw [List.take_add_one, h, List.any_append]; simp
theorem rowAny_eq {RW : RWL} {g : Int → Bool} {v : Int} (comp : g v = true → ∃ q ∈ RW, q.2.1 = v) : (RW.any fun q => decide (q.2.1 = v) && g q.2.1) = g v := by
  cases e : g v with
  | true =>
    obtain ⟨q, hq, e2⟩ := comp e
    exact List.any_eq_true.mpr ⟨q, hq, by rw [e2, e]; simp⟩
  | false =>
    refine List.any_eq_false.mpr fun q hq => ?_
    by_cases z : q.2.1 = v
    · rw [z, e]; simp
    · rw [decide_eq_false z]; simp
theorem bit_and {a b : Bool} : (a && b) = if a then b else false := by cases a <;> rfl
section
variable {c : Cx} {H : AH} {x : Ad} {k : Int} {bv : BV}
end
end Mine
namespace Mine
open PySem PySem.W PySem.Calls PyProof.Rows
noncomputable def seen (RW : RWL) (low : Nat → Int) (i r : Nat) : Bool := (RW.take i).any fun q => decide (q.2.1 = low r)
noncomputable def inP (lw p : Int) (t : Nat) : Bool := decide (lw ≤ t ∧ (t : Int) < lw + p)
noncomputable def cov (sn : Bool) (lw lo p p' : Int) (t : Nat) : Bool := (sn && inP lw p t) || (decide (lo = lw) && inP lw p' t)
theorem cov_ne {sn : Bool} {lw lo p p' : Int} {t : Nat} (h : (t : Int) ≠ lo + p') : cov sn lw lo p p' t = cov sn lw lo p (p' + 1) t := by
  unfold cov
  by_cases e : lo = lw
  · rw [show inP lw p' t = inP lw (p' + 1) t from ?_]
    unfold inP
    refine decide_eq_decide.mpr ?_
    (exact om167 h e)
  · rw [decide_eq_false e, Bool.false_and, Bool.false_and]
theorem cov_at {sn : Bool} {lw lo p p' : Int} {t : Nat} (h : (t : Int) = lo + p') (h0 : 0 ≤ p') : cov sn lw lo p (p' + 1) t = (decide (lo = lw) || cov sn lw lo p p' t) := by
  unfold cov
  by_cases e : lo = lw
  · rw [decide_eq_true e, show inP lw (p' + 1) t = true from decide_eq_true (by (exact om168 h h0 e))]; simp
  · rw [decide_eq_false e]; simp
theorem cov_full {sn : Bool} {lw lo p : Int} {t : Nat} : cov sn lw lo p p t = ((sn || decide (lo = lw)) && inP lw p t) := by
  unfold cov; cases sn <;> cases decide (lo = lw) <;> cases inP lw p t <;> rfl
theorem cov_zero {sn : Bool} {lw lo p : Int} {t : Nat} : cov sn lw lo p 0 t = (sn && inP lw p t) := by
  unfold cov
  rw [show inP lw 0 t = false from decide_eq_false (by (exact om169))]; simp
theorem seen_all {RW : RWL} {low : Nat → Int} {r p n t : Nat} (comp : ∀ r, 1 - (p : Int) ≤ low r → low r < n → ∃ q ∈ RW, q.2.1 = low r) (ht : t < n) : (seen RW low RW.length r && inP (low r) p t) = inP (low r) p t := by
  cases e : inP (low r) p t with
  | false => simp
  | true =>
    have e := of_decide_eq_true e
    obtain ⟨q, hq, e2⟩ := comp r (by (exact om170 e)) (by (exact om171 ht e))
    rw [Bool.and_true]
    unfold seen
    rw [List.take_length]
    exact List.any_eq_true.mpr ⟨q, hq, decide_eq_true e2⟩
section
variable {c : Cx} {H : AH} {x : Ad} {k : Int} {bv : BV}
end
end Mine
namespace Mine
open PySem PySem.W PySem.Calls PyProof.Rows
section
variable {c : Cx} {H : AH} {x : Ad} {k : Int} {bv : BV}
end
end Mine
namespace Mine
open PySem PySem.W PySem.Calls PyProof.Rows
noncomputable abbrev WL := List (Addr × List Int)
noncomputable def wd (ws : WL) (t p : Nat) : Int := match ws[t]? with | some q => q.2.getD p 0 | none => 0
noncomputable def MemAt (x : Ad) (k : Int) (H : AH) (l : Addr) (ws : WL) (w : Nat) : Prop := H l = some (.list (ws.map fun q => Rf q.1)) ∧ ∀ q ∈ ws, H q.1 = some (.list (q.2.map I)) ∧ q.1 ≠ x.lc ∧ q.2.length = w ∧ ∀ a ∈ q.2, 0 ≤ a ∧ a < k
theorem any_range_succ {n : Nat} {f : Nat → Bool} : (List.range (n + 1)).any f = ((List.range n).any f || f n) := by rw [List.range_succ, List.any_append]; simp
section
variable {c : Cx} {H : AH} {x : Ad} {k : Int} {bv : BV}
theorem MemAt.mono {k' sp : Int} {bv' : BV} {H' : AH} {l : Addr} {ws : WL} {w : Nat} (h : ST x k bv H) (q : MemAt x k H l ws w) (n : l ≠ x.lc) (s : Step x k bv H k' bv' H' sp) : MemAt x k' H' l ws w :=
  ⟨h.lst s.fr q.1 n, fun p hp => let ⟨a1, a2, a3, a4⟩ := q.2 p hp; ⟨h.lst s.fr a1 a2, a2, a3, fun a ha => ⟨(a4 a ha).1, by have := s.le; have := (a4 a ha).2; (exact om192 (by assumption) this)⟩⟩⟩
theorem MemAt.get {l : Addr} {ws : WL} {w t : Nat} (q : MemAt x k H l ws w) (ht : t < ws.length) : ∃ p, ws[t]? = some p ∧ (ws.map fun q => Rf q.1)[((t : Nat) : Int).toNat]? = some (Rf p.1) ∧ H p.1 = some (.list (p.2.map I)) ∧ p.1 ≠ x.lc ∧ p.2.length = w ∧ (∀ a ∈ p.2, 0 ≤ a ∧ a < k) ∧ ∀ j, wd ws t j = p.2.getD j 0 := by
  obtain ⟨a1, a2, a3, a4⟩ := q.2 ws[t] (List.getElem_mem ht)
  have e := List.getElem?_eq_getElem ht
  exact ⟨ws[t], e, by rw [Int.toNat_natCast, List.getElem?_map, e]; rfl, a1, a2, a3, a4, fun j => by unfold wd; rw [e]⟩
end
end Mine
namespace Mine
open PySem PySem.W PySem.Calls PyProof.Rows
theorem upd_upd (H : AH) (a : Addr) (o o' : AObj) : upd (upd H a o) a o' = upd H a o' := by
  funext b; unfold upd; split <;> rfl
theorem upd_same {H : AH} {a : Addr} {o : AObj} (h : H a = some o) : upd H a o = H := by
  funext b; unfold upd; split
  · rename_i e; rw [e, h]
  · rfl
theorem fmod_rng {a b : Int} (h : 0 < b) : 0 ≤ a.fmod b ∧ a.fmod b < b := ⟨Int.fmod_nonneg_of_pos a h, Int.fmod_lt_of_pos a h⟩
section
variable {c : Cx} {H : AH}
noncomputable abbrev hnd (cl : Addr) (p q s : Int) : AObj := .list [Rf cl, I p, I q, I s]
/-- the hand of digits -/
noncomputable def HS (H : AH) (hd cl : Addr) (ns : List Int) : Prop := ∃ p q s : Int, H hd = some (hnd cl p q s) ∧ 0 ≤ p ∧ p ≤ ns.length ∧ 0 ≤ s ∧ s < 2 ^ 40 ∧ H cl = some (.list (ns.map I)) ∧ ns.length ≤ 63
theorem HS.ne {hd cl : Addr} {ns : List Int} (h : HS H hd cl ns) : hd ≠ cl := by
  obtain ⟨p, q, s, h1, _, _, _, _, h2, _⟩ := h
  rintro rfl
  rw [h1] at h2
  cases ns with
  | nil => cases h2
  | cons a r => cases h2
end
end Mine
namespace Mine
open PySem PySem.W PySem.Calls PyProof.Rows
theorem band_nat (a b : Nat) : Builtin.bitAnd (a : Int) (b : Int) = ((a &&& b : Nat) : Int) := by
  unfold Builtin.bitAnd
  rw [decide_eq_true (Int.natCast_nonneg a), decide_eq_true (Int.natCast_nonneg b)]
  rfl
theorem bor_nat (a b : Nat) : Builtin.bitOr (a : Int) (b : Int) = ((a ||| b : Nat) : Int) := by
  unfold Builtin.bitOr Builtin.bitAnd Builtin.bitNot
  rw [decide_eq_false (by (exact om234)), decide_eq_false (by (exact om234))]
  dsimp only
  rw [show -(-(a : Int) - 1) - 1 = a by (exact om235), show -(-(b : Int) - 1) - 1 = b by (exact om235), Int.toNat_natCast, Int.toNat_natCast]
  (exact om235)
noncomputable def b2i (b : Bool) : Int := if b then 1 else 0
theorem bitv (a i : Nat) : ((a : Int).fdiv (2 ^ i)).fmod 2 = b2i (a.testBit i) := by
  have e1 : ((2 : Int) ^ i) = ((2 ^ i : Nat) : Int) := by push_cast; rfl
  rw [e1, Int.fdiv_eq_ediv_of_nonneg _ (Int.natCast_nonneg _), Int.fmod_eq_emod_of_nonneg _ (by decide), ← Int.natCast_ediv, show (2 : Int) = ((2 : Nat) : Int) from rfl, ← Int.natCast_emod, Nat.testBit_eq_decide_div_mod_eq]
  unfold b2i
  have : a / 2 ^ i % 2 = 0 ∨ a / 2 ^ i % 2 = 1 := by (exact om236)
  rcases this with h | h <;> rw [h] <;> rfl
theorem bitv_eq (a i : Nat) : decide (((a : Int).fdiv (2 ^ i)).fmod 2 = 1) = a.testBit i := by
  rw [bitv]; unfold b2i; cases a.testBit i <;> rfl
theorem full_sub {R w : Nat} (h : w < 2 ^ R) : (((2 ^ R - 1 : Nat) : Int) - (w : Int)) = ((2 ^ R - 1 - w : Nat) : Int) := by (exact om237 h)
theorem full_sub_bit {R w r : Nat} (h : w < 2 ^ R) : (2 ^ R - 1 - w).testBit r = (decide (r < R) && !w.testBit r) := by
  rw [show 2 ^ R - 1 - w = 2 ^ R - (w + 1) by (exact om238 h)]
  exact Nat.testBit_two_pow_sub_succ h r
theorem idx_bit {bs : List Bool} : ∀ {t : Nat}, (idx bs).testBit t = bs.getD t false := by
  induction bs with
  | nil => intro t; simp [idx]
  | cons b r ih =>
    intro t
    unfold idx
    cases t with
    | zero => cases b <;> simp [Nat.testBit_zero] <;> omega
    | succ t =>
      rw [Nat.testBit_succ, show ((if b = true then 1 else 0) + 2 * idx r) / 2 = idx r by cases b <;> simp <;> (exact om239), ih]
      rfl
theorem idx_lt {bs : List Bool} : idx bs < 2 ^ bs.length := by
  induction bs with
  | nil => decide
  | cons b r ih =>
    unfold idx
    rw [List.length_cons, Nat.pow_succ]
    cases b <;> simp <;> (first | exact om240 ih | exact om241 ih)
theorem idx_snoc {bs : List Bool} {b : Bool} : idx (bs ++ [b]) = idx bs + (if b then 2 ^ bs.length else 0) := by
  induction bs with
  | nil => cases b <;> rfl
  | cons a r ih =>
    rw [List.cons_append]
    unfold idx
    rw [ih, List.length_cons, Nat.pow_succ]
    cases b <;> simp <;> (exact om242)
theorem idx_all {bs : List Bool} {row : Nat} (h : row < 2 ^ bs.length) : ((List.range bs.length).all fun t => bs.getD t false == row.testBit t) = decide (idx bs = row) := by
  by_cases e : idx bs = row
  · subst e
    rw [decide_eq_true rfl]
    exact List.all_eq_true.mpr fun t _ => by rw [idx_bit]; simp
  · rw [decide_eq_false e]
    refine Bool.eq_false_iff.mpr fun q => e ?_
    refine Nat.eq_of_testBit_eq fun t => ?_
    by_cases z : t < bs.length
    · have := List.all_eq_true.mp q t (List.mem_range.mpr z)
      rw [idx_bit]; exact eq_of_beq this
    · have h2 : 2 ^ bs.length ≤ 2 ^ t := Nat.pow_le_pow_right (by decide) (by (exact om55 z))
      rw [Nat.testBit_lt_two_pow (Nat.lt_of_lt_of_le h h2), Nat.testBit_lt_two_pow (Nat.lt_of_lt_of_le idx_lt h2)]
noncomputable def pw (P : Nat → Bool) : Nat → Nat
  | 0 => 0
  | n + 1 => pw P n + if P n then 2 ^ n else 0
theorem pw_lt {P : Nat → Bool} {n : Nat} : pw P n < 2 ^ n := by
  induction n with
  | zero => exact Nat.one_pos
  | succ n ih => unfold pw; rw [Nat.pow_succ]; split <;> (first | exact om243 ih | exact om244 ih)
theorem pw_bit {P : Nat → Bool} {n r : Nat} : (pw P n).testBit r = (decide (r < n) && P r) := by
  induction n with
  | zero => simp [pw]
  | succ n ih =>
    unfold pw
    by_cases z : r = n
    · subst z
      split
      · rename_i h
        rw [Nat.add_comm, Nat.testBit_two_pow_add_eq, Nat.testBit_lt_two_pow pw_lt, h]; simp
      · rename_i h
        rw [Nat.add_zero, Nat.testBit_lt_two_pow pw_lt, Bool.eq_false_iff.mpr h]; simp
    · by_cases y : r < n
      · split
        · rw [Nat.add_comm, Nat.testBit_two_pow_add_gt y, ih, decide_eq_true y, decide_eq_true (by (exact om245 y))]
        · rw [Nat.add_zero, ih, decide_eq_true y, decide_eq_true (by (exact om245 y))]
      · rw [decide_eq_false (by (exact om246 z y)), Bool.false_and]
        refine Nat.testBit_lt_two_pow (Nat.lt_of_lt_of_le (pw_lt (P := P) (n := n + 1)) (Nat.pow_le_pow_right (by decide) (by (exact om247 z y))))
end Mine
namespace Mine
open PySem PySem.W PySem.Calls PyProof.Rows
section
variable {c : Cx} {H : AH}
noncomputable def tabKvs : List (Str × Value) := [("buf", I 2), ("not", I 1), ("and", I 8), ("or", I 14), ("xor", I 6), ("nand", I 7), ("nor", I 1), ("xnor", I 9), ("mux", I 228)]
theorem tabKvs_nd : (tabKvs.map (·.1)).Nodup := by decide
theorem tabKvs_at {kind : Str} {n : Nat} (hk : kindOK kind n) : valueAt tabKvs kind = some (I (tab kind : Nat)) := by
  rcases hk with ⟨rfl, _⟩ | ⟨rfl, _⟩ | ⟨rfl, _⟩ | ⟨rfl, _⟩ | ⟨rfl, _⟩
  · rw [tab_not]; rfl
  · rw [tab_and]; rfl
  · rw [tab_or]; rfl
  · rw [tab_xor]; rfl
  · rw [tab_mux]; rfl
end
end Mine
namespace Mine
open PySem PySem.W PySem.Calls PyProof.Rows
theorem pow2_nat (n : Nat) : (2 : Int) ^ ((n : Nat) : Int).toNat = ((2 ^ n : Nat) : Int) := by rw [Int.toNat_natCast]; push_cast; rfl
theorem natAbs_pow {i : Nat} (h : i < 64) : ((2 : Int) ^ ((i : Nat) : Int).toNat).natAbs < 2 ^ 64 := by
  rw [pow2_nat, Int.natAbs_natCast]; exact Nat.pow_lt_pow_right (by decide) h
theorem pow_ne {i : Nat} : (2 : Int) ^ ((i : Nat) : Int).toNat ≠ 0 := by
  rw [pow2_nat]; have : 0 < 2 ^ i := Nat.pow_pos (by decide)
  (exact om253 this)
theorem bitv' (a i : Nat) : decide (((a : Int).fdiv (2 ^ ((i : Nat) : Int).toNat)).fmod 2 = 1) = a.testBit i := by rw [Int.toNat_natCast]; exact bitv_eq a i
theorem bitw (a i : Nat) : (((a : Int).fdiv (2 ^ ((i : Nat) : Int).toNat)).fmod 2) = b2i (a.testBit i) := by rw [Int.toNat_natCast]; exact bitv a i
noncomputable abbrev IN (n : Nat) : Value := I (n : Int)
section
variable {c : Cx} {H : AH}
end
end Mine
namespace Mine
open PySem PySem.W PySem.Calls PyProof.Rows
/-- the words of the nets -/
noncomputable def WD (kvs : List (Int × Value)) (k : Int) (bv : BV) (R : Nat) : Prop := ∀ a, 0 ≤ a → a < k → ∃ n : Nat, valueAt kvs a = some (IN n) ∧ n < 2 ^ R ∧ ∀ r < R, n.testBit r = bv a r
section
variable {c : Cx} {H : AH} {k : Int} {bv : BV}
end
end Mine
namespace Mine
open PySem PySem.W PySem.Calls PyProof.Rows
theorem valueAt_stored {kvs : List (Int × Value)} {k a : Int} {v : Value} : valueAt (stored kvs k v) a = if a = k then some v else valueAt kvs a := by
  unfold stored
  split
  · rename_i h
    induction kvs with
    | nil => simp at h
    | cons p r ih =>
      obtain ⟨q, u⟩ := p
      rw [List.any_cons, Bool.or_eq_true] at h
      rw [List.map_cons]
      unfold valueAt at *
      rw [List.find?_cons, List.find?_cons]
      by_cases e : q = k
      · subst e
        rw [if_pos rfl]
        dsimp only
        by_cases z : a = q
        · subst z; simp
        · rw [decide_eq_false (Ne.symm z), if_neg z]
          dsimp only
          by_cases y : (r.any fun kv => decide (kv.1 = q)) = true
          · rw [ih y, if_neg z]
          · have : (r.map fun kv => if kv.1 = q then (kv.1, v) else kv) = r := by
              have hr : ∀ p ∈ r, ¬ p.1 = q := fun p hp e => y (List.any_eq_true.mpr ⟨p, hp, decide_eq_true e⟩)
              conv => rhs; rw [← List.map_id r]
              exact List.map_congr_left fun p hp => by rw [if_neg (hr p hp)]; rfl
            rw [this]
      · rw [if_neg e]
        have h2 : (r.any fun kv => decide (kv.1 = k)) = true := by
          rcases h with h | h
          · exact absurd (of_decide_eq_true h) e
          · exact h
        dsimp only
        by_cases z : a = q
        · subst z; simp [e]
        · rw [decide_eq_false (Ne.symm z)]
          dsimp only
          exact ih h2
  · rename_i h
    have hr : ∀ p ∈ kvs, p.1 ≠ k := fun p hp e => h (List.any_eq_true.mpr ⟨p, hp, decide_eq_true e⟩)
    by_cases z : a = k
    · subst z; rw [if_pos rfl, valueAt_app (valueAt_none hr), valueAt_one]
    · rw [if_neg z]
      unfold valueAt
      rw [List.find?_append]
      cases kvs.find? (fun kv => decide (kv.1 = a)) with
      | some p => rfl
      | none => simp [Ne.symm z]
theorem pw_succ {P : Nat → Bool} {n : Nat} : pw P (n + 1) = pw P n + if P n then 2 ^ n else 0 := rfl
theorem stored_len {kvs : List (Int × Value)} {k : Int} {v : Value} : (stored kvs k v).length ≤ kvs.length + 1 := by
  unfold stored; split
  · simp
  · simp
theorem WD.push {kvs : List (Int × Value)} {j : Int} {bv : BV} {R n : Nat} (W : WD kvs j bv R) (h0 : 0 ≤ j) (hn : n < 2 ^ R) (hb : ∀ r < R, n.testBit r = bv j r) : WD (stored kvs j (IN n)) (j + 1) bv R := fun a a0 a1 => by
  rw [valueAt_stored]
  by_cases z : a = j
  · subst z; rw [if_pos rfl]; exact ⟨n, rfl, hn, hb⟩
  · rw [if_neg z]; exact W a a0 (by (exact om275 a1 z))
noncomputable def Ext (H H' : AH) : Prop := ∀ b o, H b = some o → H' b = some o
theorem Ext.new {H : AH} {D : Addr} (hD : H D = none) (o : AObj) : Ext H (upd H D o) := fun b o' hb => by rw [upd_ne]; exact hb; rintro rfl; rw [hD] at hb; cases hb
theorem Ext.trans {H H1 H2 : AH} (a : Ext H H1) (b : Ext H1 H2) : Ext H H2 := fun d o e => b d o (a d o e)
theorem Ext.none {H H' : AH} (a : Ext H H') {D : Addr} (h : H' D = none) : H D = none := by
  cases q : H D with
  | none => rfl
  | some o => rw [a _ _ q] at h; cases h
theorem Ext.set {H H' : AH} (a : Ext H H') {D : Addr} (h : H D = Option.none) (o : AObj) : Ext H (upd H' D o) := fun b o' hb => by rw [upd_ne]; exact a b o' hb; rintro rfl; rw [h] at hb; cases hb
section
variable {c : Cx} {H : AH} {x : Ad} {k : Int} {bv : BV}
end
end Mine
namespace Mine
open PySem PySem.W PySem.Calls PyProof.Rows
noncomputable def ExtB (D : Addr) (H H' : AH) : Prop := ∀ b o, H b = some o → b ≠ D → H' b = some o
theorem ExtB.refl {D : Addr} {H : AH} : ExtB D H H := fun b o h _ => h
theorem ExtB.new {D E : Addr} {H H' : AH} (h : ExtB D H H') (hE : H' E = none) (o : AObj) : ExtB D H (upd H' E o) := fun b o' hb n => by rw [upd_ne]; exact h b o' hb n; rintro rfl; rw [h _ _ hb n] at hE; cases hE
theorem ExtB.set {D : Addr} {H H' : AH} (h : ExtB D H H') (o : AObj) : ExtB D H (upd H' D o) := fun b o' hb n => by rw [upd_ne _ _ n]; exact h b o' hb n
theorem ExtB.setN {D E : Addr} {H H' : AH} (h : ExtB D H H') (hE : H E = none) (o : AObj) : ExtB D H (upd H' E o) := fun b o' hb n => by rw [upd_ne]; exact h b o' hb n; rintro rfl; rw [hb] at hE; cases hE
theorem ne_of {H : AH} {a b : Addr} {o : AObj} (h : H a = some o) (h2 : H b = none) : a ≠ b := by rintro rfl; rw [h] at h2; cases h2
section
variable {c : Cx} {H : AH}
noncomputable def rngI (k : Int) (w : Nat) : List Int := (List.range w).map fun j : Nat => k + (j : Int)
theorem rngI_succ {k : Int} {w : Nat} : rngI k (w + 1) = rngI k w ++ [k + w] := by unfold rngI; rw [List.range_succ, List.map_append]; rfl
theorem rngI_len {k : Int} {w : Nat} : (rngI k w).length = w := by unfold rngI; simp
end
end Mine
namespace Mine
open PySem PySem.W PySem.Calls PyProof.Rows
theorem execs_app (l1 l2 : List Stmt) (env : Env) : execs (l1 ++ l2) env = (execs l1 env >>= fun f => match f with | .next => execs l2 env | f => pure f) := by
  induction l1 with
  | nil => rfl
  | cons s r ih =>
    rw [List.cons_append, execs_cons, execs_cons, bind_assoc]
    congr 1
    funext f
    cases f with
    | next => exact ih
    | brk => rfl
    | cont => rfl
    | ret v => rfl
section
variable {c : Cx} {P : PH} {H : AH} {env : Env} {m : Ms} {A : Around} {K : Frag}
theorem EX.app {l1 l2 : List Stmt} {Q : Flow → AH → Ms → Prop} (h : EX c A env (execs l1 env) H m (fun f H1 m1 => match f with | .next => EX c A env (execs l2 env) H1 m1 Q | f => Q f H1 m1)) : EX c A env (execs (l1 ++ l2) env) H m Q := fun P s E F => by
  rw [execs_app]
  refine wpAny_bind (wpAny_mono (h P s E F) (fun f s1 ⟨H1, m1, F1, q⟩ => ?_) fun _ _ e => e)
  cases f with
  | next => exact q P s1 E F1
  | brk => exact wpAny_pure ⟨H1, m1, F1, q⟩
  | cont => exact wpAny_pure ⟨H1, m1, F1, q⟩
  | ret v => exact wpAny_pure ⟨H1, m1, F1, q⟩
theorem EX.split (n : Nat) {l : List Stmt} {Q : Flow → AH → Ms → Prop} (Mid : AH → Ms → Prop) (h1 : EX c A env (execs (l.take n) env) H m (fun f H1 m1 => f = .next ∧ Mid H1 m1)) (h2 : ∀ H1 m1, Mid H1 m1 → EX c A env (execs (l.drop n) env) H1 m1 Q) : EX c A env (execs l env) H m Q := by
  rw [← List.take_append_drop n l]
  exact EX.app (h1.mono fun f H1 m1 ⟨e, q⟩ => by subst e; exact h2 H1 m1 q)
theorem Has.push {l : List (Str × Value)} (h : Has m l) {x : Str} {v : Value} (e : autoParam ((l.any fun p => p.1 == x) = false) autoRfl) : Has (mset m x v) ((x, v) :: l) := ⟨mset_self .., h.set e⟩
theorem EX.setN {x : Str} {px pos : Pos} {e : Expr} {rest : List Stmt} {N : List (Str × Value)} {Q : Flow → AH → Ms → Prop} (hm : Has m N) (h : EV c A env (eval e env) H m (fun v H1 => ∀ m1, Has m1 ((x, v) :: N) → EX c A env (execs rest env) H1 m1 Q)) (hf : autoParam ((N.any fun p => p.1 == x) = false) autoRfl)
    (st : autoParam (stOk env x = true) autoRfl) (hs : autoParam (swapsWith e (some (.Name x px)) pos.line env = pure false) autoRfl) : EX c A env (execs (.Assign [.Name x px] e pos :: rest) env) H m Q :=
  EX.cons (EX.set (h.mono fun v H1 k => k _ (hm.push hf)) st hs)
theorem EX.push {x : Str} {v : Value} {t : Sem Flow} {N : List (Str × Value)} {Q : Flow → AH → Ms → Prop} (hm : Has m N) (k : ∀ m1, Has m1 ((x, v) :: N) → EX c A env t H m1 Q) (hf : autoParam ((N.any fun p => p.1 == x) = false) autoRfl) : EX c A env t H (mset m x v) Q := k _ (hm.push hf)
end
/-! what is kept -/
noncomputable def Mono (Z : Int → BV → Prop) : Prop := ∀ k bv k' bv', k ≤ k' → (∀ a r, a < k → bv' a r = bv a r) → Z k bv → Z k' bv'
theorem Mono.and {Y Z : Int → BV → Prop} (a : Mono Y) (b : Mono Z) : Mono fun k bv => Y k bv ∧ Z k bv := fun k bv k' bv' h1 h2 ⟨y, z⟩ => ⟨a _ _ _ _ h1 h2 y, b _ _ _ _ h1 h2 z⟩
noncomputable def keepOK (x : Ad) (p : Addr × AObj) : Prop := (∃ vs, p.2 = .tup vs) ∨ (∃ vs, p.2 = .list vs ∧ p.1 ≠ x.lc)
structure LS (x : Ad) (k : Int) (bv : BV) (H : AH) (hd cl : Addr) (ns : List Int) (F : List (Addr × AObj)) (Z : Int → BV → Prop) : Prop where
  st : ST x k bv H
  hs : HS H hd cl ns
  nh : hd ≠ x.lc
  nc : cl ≠ x.lc
  fr : ∀ p ∈ F, H p.1 = some p.2 ∧ p.1 ≠ hd ∧ keepOK x p
  mz : Mono Z
  z : Z k bv
section
variable {x : Ad} {k k' sp : Int} {bv bv' : BV} {H H' : AH} {hd cl : Addr} {ns : List Int} {F : List (Addr × AObj)} {Z : Int → BV → Prop}
theorem LS.at (h : LS x k bv H hd cl ns F Z) (i : Nat) {a : Addr} {o : AObj} (e : F[i]? = some (a, o)) : H a = some o := (h.fr _ (List.mem_of_getElem? e)).1
theorem LS.atn (h : LS x k bv H hd cl ns F Z) (i : Nat) {a : Addr} {o : AObj} (e : F[i]? = some (a, o)) : a ≠ hd := (h.fr _ (List.mem_of_getElem? e)).2.1
theorem LS.atl (h : LS x k bv H hd cl ns F Z) (i : Nat) {a : Addr} {vs : List Value} (e : F[i]? = some (a, .list vs)) : a ≠ x.lc := by
  rcases (h.fr _ (List.mem_of_getElem? e)).2.2 with ⟨_, q⟩ | ⟨_, _, q⟩
  · cases q
  · exact q
theorem LS.pick (h : LS x k bv H hd cl ns F Z) {o : AObj} (e : H' = upd H hd o) (q : HS H' hd cl ns) : LS x k bv H' hd cl ns F Z := by
  obtain ⟨p1, p2, p3, p4, _⟩ := q
  have ho : o = hnd cl p1 p2 p3 := by rw [e, upd_self] at p4; exact Option.some.inj p4
  obtain ⟨q1, q2, q3, q4, _⟩ := h.hs
  refine ⟨?_, ⟨p1, p2, p3, p4, by assumption⟩, h.nh, h.nc, fun p hp => ?_, h.mz, h.z⟩
  · rw [e, ho]; exact h.st.setL q4 h.nh
  · obtain ⟨a, b, d⟩ := h.fr p hp
    exact ⟨by rw [e, upd_ne _ _ b]; exact a, b, d⟩
theorem LS.step (h : LS x k bv H hd cl ns F Z) (s : Step x k bv H k' bv' H' sp) : LS x k' bv' H' hd cl ns F Z := by
  obtain ⟨q1, q2, q3, q4, a1, a2, a3, a4, a5, a6⟩ := h.hs
  refine ⟨s.st, ⟨q1, q2, q3, h.st.lst s.fr q4 h.nh, a1, a2, a3, a4, h.st.lst s.fr a5 h.nc, a6⟩, h.nh, h.nc, fun p hp => ?_, h.mz, h.mz _ _ _ _ s.le s.old h.z⟩
  obtain ⟨a, b, d⟩ := h.fr p hp
  refine ⟨?_, b, d⟩
  obtain ⟨p1, p2⟩ := p
  rcases d with ⟨vs, rfl⟩ | ⟨vs, rfl, n⟩
  · exact h.st.tup s.fr a
  · exact h.st.lst s.fr a n
theorem LS.new (h : LS x k bv H hd cl ns F Z) {D : Addr} (hD : H D = none) {o : AObj} (ho : (∃ vs, o = .tup vs) ∨ (∃ vs, o = .list vs)) : LS x k bv (upd H D o) hd cl ns (F ++ [(D, o)]) Z := by
  have e := Ext.new hD o
  obtain ⟨q1, q2, q3, q4, a1, a2, a3, a4, a5, a6⟩ := h.hs
  refine ⟨h.st.fresh hD, ⟨q1, q2, q3, e _ _ q4, a1, a2, a3, a4, e _ _ a5, a6⟩, h.nh, h.nc, fun p hp => ?_, h.mz, h.z⟩
  rcases List.mem_append.mp hp with hp | hp
  · obtain ⟨a, b, d⟩ := h.fr p hp
    exact ⟨e _ _ a, b, d⟩
  · cases List.mem_singleton.mp hp
    refine ⟨upd_self .., Ne.symm (ne_of q4 hD), ?_⟩
    rcases ho with q | ⟨vs, q⟩
    · exact .inl q
    · exact .inr ⟨vs, q, (h.st.newne hD).1⟩
theorem LS.keep (h : LS x k bv H hd cl ns F Z) {D : Addr} {o : AObj} (hD : H D = some o) (n : D ≠ hd) (ho : (∃ vs, o = .tup vs) ∨ (∃ vs, o = .list vs ∧ D ≠ x.lc)) : LS x k bv H hd cl ns (F ++ [(D, o)]) Z :=
  ⟨h.st, h.hs, h.nh, h.nc, fun p hp => by
    rcases List.mem_append.mp hp with hp | hp
    · exact h.fr p hp
    · cases List.mem_singleton.mp hp; exact ⟨hD, n, ho⟩, h.mz, h.z⟩
theorem LS.add (h : LS x k bv H hd cl ns F Z) {Y : Int → BV → Prop} (my : Mono Y) (y : Y k bv) : LS x k bv H hd cl ns F (fun k bv => Z k bv ∧ Y k bv) := ⟨h.st, h.hs, h.nh, h.nc, h.fr, h.mz.and my, h.z, y⟩
/-- a list of nets that a gate function returned -/
theorem LS.nets (h : LS x k bv H hd cl ns F Z) {n : Nat} {φ : Nat → Nat → Bool} {r : Value} (q : LP x k bv H sp n φ r H') : ∃ D us k' bv', r = Rf D ∧ LS x k' bv' H' hd cl ns (F ++ [(D, .list (us.map I))]) Z ∧ us.length = n ∧ Sp k' bv' us φ ∧ k ≤ k' ∧ k' ≤ k + sp ∧ ∀ a r, a < k → bv' a r = bv a r := by
  obtain ⟨D, us, k', bv', e, s, h0, nl, hD, hl, hsp⟩ := q
  obtain ⟨q1, q2, q3, q4, _⟩ := h.hs
  exact ⟨D, us, k', bv', e, (h.step s).keep hD (Ne.symm (ne_of q4 h0)) (.inr ⟨_, rfl, nl⟩), hl, hsp, s.le, s.up, s.old⟩
end
noncomputable def ZNB (ns : List Int) (k : Int) (bv : BV) : Prop := ∀ a ∈ ns, 0 ≤ a ∧ a < k
theorem ZNB.mono {ns : List Int} : Mono (ZNB ns) := fun k bv k' bv' h _ z a ha => ⟨(z a ha).1, by have := (z a ha).2; (exact om192 h this)⟩
theorem ZNB.getD {ns : List Int} {k : Int} {bv : BV} (h : ZNB ns k bv) (hk : 0 < k) (j : Nat) : ns.getD j 0 < k := by
  rw [List.getD_eq_getElem?_getD]
  cases e : ns[j]? with
  | none => exact hk
  | some a => exact (h a (List.mem_of_getElem? e)).2
theorem Sp.zmono {ns : List Int} {φ : BV → Nat → Nat → Bool} {k k' : Int} {bv bv' : BV} (q : Sp k bv ns (φ bv)) (h1 : k ≤ k') (h2 : ∀ a r, a < k → bv' a r = bv a r) (e : ∀ j r, φ bv j r = φ bv' j r) : Sp k' bv' ns (φ bv') := fun j a h =>
  let ⟨a1, a2, a3⟩ := q j a h
  ⟨a1, by (exact om192 h1 a2), fun r => by rw [h2 _ _ a2, a3 r, e]⟩
theorem Sp.nb {ns : List Int} {φ : Nat → Nat → Bool} {k : Int} {bv : BV} (q : Sp k bv ns φ) : ZNB ns k bv := fun a ha =>
  let ⟨j, hj⟩ := List.mem_iff_getElem?.mp ha
  ⟨(q j a hj).1, (q j a hj).2.1⟩
theorem lowOf_congr {sg : Bool} {ins : List Int} {k : Int} {bv bv' : BV} {base step : Int} (h : ZNB ins k bv) (e : ∀ a r, a < k → bv' a r = bv a r) (r : Nat) : lowOf sg ins bv base step r = lowOf sg ins bv' base step r := by
  unfold lowOf; rw [List.map_congr_left fun a ha => (e a r (h a ha).2).symm]
theorem ivOf_congr {ins : List Int} {k : Int} {bv bv' : BV} (h : ZNB ins k bv) (e : ∀ a r, a < k → bv' a r = bv a r) (r : Nat) : ins.map (bv · r) = ins.map (bv' · r) := List.map_congr_left fun a ha => (e a r (h a ha).2).symm
/-- what the gate functions built -/
noncomputable def ZRead (sg : Bool) (ins : List Int) (base step : Int) (bits us : List Int) (k : Int) (bv : BV) : Prop := ZNB ins k bv ∧ ZNB bits k bv ∧ 0 < k ∧ Sp k bv us fun p r => decide (0 ≤ lowOf sg ins bv base step r + p ∧ lowOf sg ins bv base step r + p < bits.length) && bv (bits.getD (lowOf sg ins bv base step r + p).toNat 0) r
theorem ZRead.mono {sg ins base step bits us} : Mono (ZRead sg ins base step bits us) := fun k bv k' bv' h1 h2 ⟨a, b, d, e⟩ =>
  ⟨ZNB.mono _ _ _ _ h1 h2 a, ZNB.mono _ _ _ _ h1 h2 b, by (exact om307 h1 d), e.zmono (φ := fun bv p r => decide (0 ≤ lowOf sg ins bv base step r + p ∧ lowOf sg ins bv base step r + p < bits.length) && bv (bits.getD (lowOf sg ins bv base step r + p).toNat 0) r) h1 h2 fun j r => by
    rw [lowOf_congr a h2, h2 _ _ (b.getD d _)]⟩
noncomputable def ZWrite (sg : Bool) (ins : List Int) (base step : Int) (bits part : List Int) (en : Int) (us : List Int) (k : Int) (bv : BV) : Prop := ZNB ins k bv ∧ ZNB bits k bv ∧ ZNB part k bv ∧ en < k ∧ 0 < k ∧ Sp k bv us fun t r => if bv en r && inP (lowOf sg ins bv base step r) part.length t then bv (part.getD (t - lowOf sg ins bv base step r).toNat 0) r else bv (bits.getD t 0) r
theorem ZWrite.mono {sg ins base step bits part en us} : Mono (ZWrite sg ins base step bits part en us) := fun k bv k' bv' h1 h2 ⟨a, b, b2, b3, d, e⟩ =>
  ⟨ZNB.mono _ _ _ _ h1 h2 a, ZNB.mono _ _ _ _ h1 h2 b, ZNB.mono _ _ _ _ h1 h2 b2, by (exact om192 h1 b3), by (exact om307 h1 d), e.zmono (φ := fun bv t r => if bv en r && inP (lowOf sg ins bv base step r) part.length t then bv (part.getD (t - lowOf sg ins bv base step r).toNat 0) r else bv (bits.getD t 0) r) h1 h2 fun j r => by
    rw [lowOf_congr a h2, h2 _ _ (b.getD d _), h2 _ _ (b2.getD d _), h2 _ _ b3]⟩
noncomputable def ZMark (sg : Bool) (ins : List Int) (base step : Int) (bits : List Int) (w : Nat) (en : Int) (us : List Int) (k : Int) (bv : BV) : Prop := ZNB ins k bv ∧ ZNB bits k bv ∧ en < k ∧ 0 < k ∧ Sp k bv us fun t r => bv (bits.getD t 0) r || (bv en r && inP (lowOf sg ins bv base step r) w t)
theorem ZMark.mono {sg ins base step bits w en us} : Mono (ZMark sg ins base step bits w en us) := fun k bv k' bv' h1 h2 ⟨a, b, b3, d, e⟩ =>
  ⟨ZNB.mono _ _ _ _ h1 h2 a, ZNB.mono _ _ _ _ h1 h2 b, by (exact om192 h1 b3), by (exact om307 h1 d), e.zmono (φ := fun bv t r => bv (bits.getD t 0) r || (bv en r && inP (lowOf sg ins bv base step r) w t)) h1 h2 fun j r => by
    rw [lowOf_congr a h2, h2 _ _ (b.getD d _), h2 _ _ b3]⟩
noncomputable def ZHits (sg : Bool) (ins vals us : List Int) (k : Int) (bv : BV) : Prop := ZNB ins k bv ∧ Sp k bv us fun j r => decide (iv sg (ins.map (bv · r)) = vals.getD j 0)
theorem ZHits.mono {sg ins vals us} : Mono (ZHits sg ins vals us) := fun k bv k' bv' h1 h2 ⟨a, e⟩ =>
  ⟨ZNB.mono _ _ _ _ h1 h2 a, e.zmono (φ := fun bv j r => decide (iv sg (ins.map (bv · r)) = vals.getD j 0)) h1 h2 fun j r => by rw [ivOf_congr a h2]⟩
noncomputable def ZWB (ws : WL) (w : Nat) (k : Int) (bv : BV) : Prop := ∀ q ∈ ws, q.2.length = w ∧ ∀ a ∈ q.2, 0 ≤ a ∧ a < k
theorem ZWB.mono {ws : WL} {w : Nat} : Mono (ZWB ws w) := fun k bv k' bv' h _ z q hq => ⟨(z q hq).1, fun a ha => ⟨((z q hq).2 a ha).1, by have := ((z q hq).2 a ha).2; (exact om192 h this)⟩⟩
theorem ZWB.lt {ws : WL} {w : Nat} {k : Int} {bv : BV} (h : ZWB ws w k bv) (hk : 0 < k) (t p : Nat) : wd ws t p < k := by
  unfold wd
  cases e : ws[t]? with
  | none => exact hk
  | some q => exact ZNB.getD (bv := bv) (h q (List.mem_of_getElem? e)).2 hk p
noncomputable def ZWord (ws : WL) (w : Nat) (hs us : List Int) (k : Int) (bv : BV) : Prop := ZWB ws w k bv ∧ ZNB hs k bv ∧ 0 < k ∧ Sp k bv us fun p r => (List.range ws.length).any fun t => bv (hs.getD t 0) r && bv (wd ws t p) r
theorem ZWord.mono {ws w hs us} : Mono (ZWord ws w hs us) := fun k bv k' bv' h1 h2 ⟨a, b, d, e⟩ =>
  ⟨ZWB.mono _ _ _ _ h1 h2 a, ZNB.mono _ _ _ _ h1 h2 b, by (exact om307 h1 d), e.zmono (φ := fun bv p r => (List.range ws.length).any fun t => bv (hs.getD t 0) r && bv (wd ws t p) r) h1 h2 fun j r => by
    congr 1; funext t; rw [h2 _ _ (b.getD d _), h2 _ _ (a.lt d _ _)]⟩
noncomputable def ZHeld (ws ws' : WL) (w : Nat) (hs ds : List Int) (en : Int) (k : Int) (bv : BV) : Prop := ZWB ws w k bv ∧ ZWB ws' w k bv ∧ ZNB hs k bv ∧ ZNB ds k bv ∧ en < k ∧ 0 < k ∧ ∀ t p r, t < ws.length → p < w → bv (wd ws' t p) r = if bv (hs.getD t 0) r && bv en r then bv (ds.getD p 0) r else bv (wd ws t p) r
theorem ZHeld.mono {ws ws' w hs ds en} : Mono (ZHeld ws ws' w hs ds en) := fun k bv k' bv' h1 h2 ⟨a, a2, b, b2, b3, d, e⟩ =>
  ⟨ZWB.mono _ _ _ _ h1 h2 a, ZWB.mono _ _ _ _ h1 h2 a2, ZNB.mono _ _ _ _ h1 h2 b, ZNB.mono _ _ _ _ h1 h2 b2, by (exact om192 h1 b3), by (exact om307 h1 d), fun t p r ht hp => by
    rw [h2 _ _ (a2.lt d _ _), e t p r ht hp, h2 _ _ (b.getD d _), h2 _ _ b3, h2 _ _ (b2.getD d _), h2 _ _ (a.lt d _ _)]⟩
end Mine
namespace Mine
open PySem PySem.W PySem.Calls PyProof.Rows
structure Raw (x : Ad) (k : Int) (H : AH) (vs : List Value) : Prop where
  hn : H x.n = some (.inst 144 x.dn)
  hdn : H x.dn = some (nsN x k)
  hg : H x.g = some (.inst 221 x.dg)
  hdg : H x.dg = some (nsG x)
  hli : H x.li = some (.list vs)
  nli : x.lc ≠ x.li
  hlc : H x.lc = some (.list [])
  hdm : H x.dm = some (.tdict [])
  hop : H x.dop = some (.idict [])
theorem Raw.keep {x : Ad} {k : Int} {H H' : AH} {vs : List Value} (r : Raw x k H vs) {hd cl : Addr} {ns : List Int} (h : HS H hd cl ns) (hv : vs.length < 4) {o : AObj} (e : H' = upd H hd o) : Raw x k H' vs := by
  obtain ⟨p, q, s, h1, _⟩ := h
  have up : ∀ {a : Addr} {o' : AObj}, H a = some o' → (∀ vs, o' = .list vs → vs.length < 4) → H' a = some o' := fun {a o'} ha hl => by
    rw [e, upd_ne]; exact ha
    rintro rfl
    rw [h1] at ha; cases ha
    exact absurd (hl _ rfl) (by simp)
  exact ⟨up r.hn (fun _ e => nomatch e), up r.hdn (fun _ e => nomatch e), up r.hg (fun _ e => nomatch e), up r.hdg (fun _ e => nomatch e), up r.hli (fun _ e => by cases e; exact hv), r.nli, up r.hlc (fun _ e => by cases e; decide), up r.hdm (fun _ e => nomatch e), up r.hop (fun _ e => nomatch e)⟩
theorem Raw.input {x : Ad} {k k' : Int} {H H' : AH} {vs vs' : List Value} (r : Raw x k H vs) (h1 : H' x.dn = some (nsN x k')) (h2 : H' x.li = some (.list vs')) (h3 : ∀ b o, H b = some o → b ≠ x.dn → b ≠ x.li → H' b = some o) : Raw x k' H' vs' := by
  have ne : ∀ {a b : Addr} {o o' : AObj}, H a = some o → H b = some o' → o ≠ o' → a ≠ b := fun {a b o o'} ha hb n => by rintro rfl; rw [ha] at hb; exact n (Option.some.inj hb)
  exact ⟨h3 _ _ r.hn (ne r.hn r.hdn (fun e => nomatch e)) (ne r.hn r.hli (fun e => nomatch e)), h1, h3 _ _ r.hg (ne r.hg r.hdn (fun e => nomatch e)) (ne r.hg r.hli (fun e => nomatch e)),
    h3 _ _ r.hdg (ne r.hdg r.hdn (fun e => by unfold nsN nsG at e; simp at e)) (ne r.hdg r.hli (fun e => nomatch e)), h2, r.nli, h3 _ _ r.hlc (ne r.hlc r.hdn (fun e => nomatch e)) r.nli,
    h3 _ _ r.hdm (ne r.hdm r.hdn (fun e => nomatch e)) (ne r.hdm r.hli (fun e => nomatch e)), h3 _ _ r.hop (ne r.hop r.hdn (fun e => nomatch e)) (ne r.hop r.hli (fun e => nomatch e))⟩
noncomputable def bv0 : BV := fun a r => decide (a = 1) || (decide (2 ≤ a) && r.testBit (a - 2).toNat)
theorem Raw.st {x : Ad} {k : Int} {H : AH} {vs : List Value} (r : Raw x k H vs) (hk : 2 ≤ k) : ST { x with k0 := k } k bv0 H :=
  ⟨r.hn, r.hdn, r.hg, r.hdg, r.nli, ⟨[], r.hlc, by simp, fun i q e => by simp at e⟩, ⟨[], r.hdm, (fun p hp => nomatch hp), by simp; (exact om308 hk), (fun p hp => nomatch hp)⟩, ⟨[], r.hop, by simp; (exact om309 hk), (fun p hp => nomatch hp)⟩, fun _ => rfl, fun _ => rfl, hk⟩
noncomputable def ZIn (ni : Nat) (k : Int) (bv : BV) : Prop := 5 + ni ≤ k ∧ ∀ j r : Nat, j < ni + 3 → bv (2 + j) r = r.testBit j
theorem ZIn.mono {ni : Nat} : Mono (ZIn ni) := fun k bv k' bv' h1 h2 ⟨a, b⟩ => ⟨by (exact om310 h1 a), fun j r hj => by rw [h2 _ _ (by (exact om311 a hj)), b j r hj]⟩
theorem bv0_in {ni : Nat} : ZIn ni (5 + ni) bv0 := ⟨Int.le_refl _, fun j r hj => by
  unfold bv0
  rw [decide_eq_false (by (exact om312)), decide_eq_true (by (exact om313)), Bool.false_or, Bool.true_and, show ((2 : Int) + j - 2).toNat = j by (exact om314)]⟩
theorem HS.ext {H H' : AH} {hd cl : Addr} {ns : List Int} (h : HS H hd cl ns) {D : Addr} (e : ExtB D H H') (h1 : hd ≠ D) (h2 : cl ≠ D) : HS H' hd cl ns := by
  obtain ⟨p, q, s, a, b, d, f, g, i, j⟩ := h
  exact ⟨p, q, s, e _ _ a h1, b, d, f, g, e _ _ i h2, j⟩
noncomputable abbrev F0 (x : Ad) (ni : Nat) (t1 d1 t2 d2 iA pA : Addr) : List (Addr × AObj) := [(x.li, .list [Rf t1, Rf t2]), (t1, .tup [S "i", Rf d1]), (d1, .list ((rngI 2 ni).map I)), (t2, .tup [S "d", Rf d2]), (d2, .list ((rngI (2 + ni) 3).map I)), (iA, .list ((rngI 2 ni).map I)), (pA, .list ((rngI (2 + ni) 3).map I))]
noncomputable def Mid1 (H : AH) (m : Ms) : Prop := ∃ (x : Ad) (hd cl : Addr) (ns : List Int) (ni : Nat) (t1 d1 t2 d2 iA pA : Addr), (ni = 1 ∨ ni = 2) ∧ x.k0 = 5 + (ni : Int) ∧ LS x (5 + (ni : Int)) bv0 H hd cl ns (F0 x ni t1 d1 t2 d2 iA pA) (ZIn ni) ∧ Has m [("pool", Rf pA), ("index", Rf iA), ("g", Rf x.g), ("net", Rf x.n), ("hand", Rf hd)]
theorem LS.sub {x : Ad} {k : Int} {bv : BV} {H : AH} {hd cl : Addr} {ns : List Int} {F F' : List (Addr × AObj)} {Z : Int → BV → Prop} (h : LS x k bv H hd cl ns F Z) (q : ∀ p ∈ F', p ∈ F) : LS x k bv H hd cl ns F' Z := ⟨h.st, h.hs, h.nh, h.nc, fun p hp => h.fr p (q p hp), h.mz, h.z⟩
theorem rngI_mem {k a : Int} {w : Nat} (h : a ∈ rngI k w) : k ≤ a ∧ a < k + w := by
  unfold rngI at h
  obtain ⟨j, hj, rfl⟩ := List.mem_map.mp h
  have := List.mem_range.mp hj
  (exact om315 this)
noncomputable abbrev F1 (x : Ad) (ni : Nat) (t1 d1 t2 d2 iA pA vA qA mA : Addr) (vec part marks : List Int) : List (Addr × AObj) := F0 x ni t1 d1 t2 d2 iA pA ++ [(vA, .list (vec.map I))] ++ [(qA, .list (part.map I))] ++ [(mA, .list (marks.map I))]
structure M2 (ni : Nat) (x : Ad) (k : Int) (step base : Int) (w : Nat) (vec part marks : List Int) (en : Int) : Prop where
  hni : ni = 1 ∨ ni = 2
  hk0 : x.k0 = 5 + (ni : Int)
  hst : step = 1 ∨ step = -1
  hbs : -2 ≤ base ∧ base ≤ 2
  hw : 1 ≤ w ∧ w ≤ 2
  hvec : 1 ≤ vec.length ∧ vec.length ≤ 3
  hpart : part.length = w
  hmarks : marks.length = vec.length
  hen : 0 ≤ en
  hkk : k ≤ 20
noncomputable def Mid2 (H : AH) (m : Ms) : Prop := ∃ (x : Ad) (hd cl : Addr) (ns : List Int) (ni : Nat) (t1 d1 t2 d2 iA pA vA qA mA : Addr) (sg : Bool) (step base : Int) (w : Nat) (vec part marks : List Int) (en k : Int) (bv : BV),
  M2 ni x k step base w vec part marks en ∧ LS x k bv H hd cl ns (F1 x ni t1 d1 t2 d2 iA pA vA qA mA vec part marks) (fun k bv => (((ZIn ni k bv ∧ ZNB vec k bv) ∧ ZNB part k bv) ∧ ZNB marks k bv) ∧ ZNB [en] k bv) ∧
  Has m [("enable", I en), ("marks", Rf mA), ("part", Rf qA), ("vector", Rf vA), ("wide", IN w), ("base", I base), ("step", I step), ("signed", .bool sg), ("pool", Rf pA), ("index", Rf iA), ("g", Rf x.g), ("net", Rf x.n), ("hand", Rf hd)]
theorem LS.nets2 {x : Ad} {k k' sp : Int} {bv bv' : BV} {H H' : AH} {hd cl : Addr} {ns : List Int} {F : List (Addr × AObj)} {Z : Int → BV → Prop} (h : LS x k bv H hd cl ns F Z) (s : Step x k bv H k' bv' H' sp) {D : Addr} {us : List Value} (h0 : H D = none) (nl : D ≠ x.lc) (hD : H' D = some (.list us)) : LS x k' bv' H' hd cl ns (F ++ [(D, .list us)]) Z := by
  obtain ⟨q1, q2, q3, q4, _⟩ := h.hs
  exact (h.step s).keep hD (Ne.symm (ne_of q4 h0)) (.inr ⟨_, rfl, nl⟩)
theorem ZIn.ins {ni : Nat} {k : Int} {bv : BV} (h : ZIn ni k bv) : ZNB (rngI 2 ni) k bv := fun a ha => by
  have := rngI_mem ha; have := h.1; (exact om316 (by assumption) this)
noncomputable abbrev F2 (x : Ad) (ni : Nat) (t1 d1 t2 d2 iA pA vA qA mA : Addr) (vec part marks : List Int) (aR aW aM : Addr) (uR uW uM : List Int) : List (Addr × AObj) := F1 x ni t1 d1 t2 d2 iA pA vA qA mA vec part marks ++ [(aR, .list (uR.map I))] ++ [(aW, .list (uW.map I))] ++ [(aM, .list (uM.map I))]
structure M3 (vec : List Int) (w : Nat) (uR uW uM : List Int) (k : Int) : Prop where
  hR : uR.length = w
  hW : uW.length = vec.length
  hM : uM.length = vec.length
  hkk : k ≤ 100
noncomputable abbrev Z3 (sg : Bool) (ni : Nat) (step base : Int) (w : Nat) (vec part marks : List Int) (en : Int) (uR uW uM : List Int) : Int → BV → Prop := fun k bv => ((((((ZIn ni k bv ∧ ZNB vec k bv) ∧ ZNB part k bv) ∧ ZNB marks k bv) ∧ ZNB [en] k bv) ∧ ZRead sg (rngI 2 ni) base step vec uR k bv) ∧ ZWrite sg (rngI 2 ni) base step vec part en uW k bv) ∧ ZMark sg (rngI 2 ni) base step marks w en uM k bv
noncomputable def Mid3 (H : AH) (m : Ms) : Prop := ∃ (x : Ad) (hd cl : Addr) (ns : List Int) (ni : Nat) (t1 d1 t2 d2 iA pA vA qA mA : Addr) (sg : Bool) (step base : Int) (w : Nat) (vec part marks : List Int) (en k0 k : Int) (bv : BV) (aR aW aM : Addr) (uR uW uM : List Int),
  M2 ni x k0 step base w vec part marks en ∧ M3 vec w uR uW uM k ∧ LS x k bv H hd cl ns (F2 x ni t1 d1 t2 d2 iA pA vA qA mA vec part marks aR aW aM uR uW uM)
    (Z3 sg ni step base w vec part marks en uR uW uM) ∧
  Has m [("marked_bits", Rf aM), ("put_bits_in", Rf aW), ("picked_bits", Rf aR), ("enable", I en), ("marks", Rf mA), ("part", Rf qA), ("vector", Rf vA), ("wide", IN w), ("base", I base), ("step", I step), ("signed", .bool sg), ("pool", Rf pA), ("index", Rf iA), ("g", Rf x.g), ("net", Rf x.n), ("hand", Rf hd)]
noncomputable abbrev wsF (ws : WL) : List (Addr × AObj) := ws.map fun q => (q.1, .list (q.2.map I))
theorem LS.mem {ws : WL} {x : Ad} {k : Int} {bv : BV} {H : AH} {hd cl : Addr} {ns : List Int} {F : List (Addr × AObj)} {Z : Int → BV → Prop} (h : LS x k bv H hd cl ns (F ++ wsF ws) Z) {w : Nat} (hz : ZWB ws w k bv) {D : Addr} (hD : H D = some (.list (ws.map fun q => Rf q.1))) : MemAt x k H D ws w :=
  ⟨hD, fun q hq => by
    obtain ⟨a, _, b⟩ := h.fr (q.1, .list (q.2.map I)) (List.mem_append_right _ (List.mem_map.mpr ⟨q, hq, rfl⟩))
    refine ⟨a, ?_, (hz q hq).1, (hz q hq).2⟩
    rcases b with ⟨_, e⟩ | ⟨_, _, n⟩
    · cases e
    · exact n⟩
set_option genInjectivity false in
structure Dat where
  x : Ad
  ni : Nat
  k : Int
  bv : BV
  t1 : Addr
  d1 : Addr
  t2 : Addr
  d2 : Addr
  iA : Addr
  vA : Addr
  qA : Addr
  mA : Addr
  aR : Addr
  aW : Addr
  aM : Addr
  valA : Addr
  hA : Addr
  memA : Addr
  wdA : Addr
  heA : Addr
  sg : Bool
  step : Int
  base : Int
  w : Nat
  vec : List Int
  part : List Int
  marks : List Int
  en : Int
  uR : List Int
  uW : List Int
  uM : List Int
  vals : List Int
  hs : List Int
  uD : List Int
  ws : WL
  ws' : WL
noncomputable def Dat.ins (d : Dat) : List Int := rngI 2 d.ni
structure FinZ (d : Dat) : Prop where
  hni : d.ni = 1 ∨ d.ni = 2
  hk0 : d.x.k0 = 5 + (d.ni : Int)
  hst : d.step = 1 ∨ d.step = -1
  hbs : -2 ≤ d.base ∧ d.base ≤ 2
  hw : 1 ≤ d.w ∧ d.w ≤ 2
  hvec : 1 ≤ d.vec.length ∧ d.vec.length ≤ 3
  hpart : d.part.length = d.w
  hmarks : d.marks.length = d.vec.length
  hen : 0 ≤ d.en ∧ d.en < d.k
  hR : d.uR.length = d.w
  hW : d.uW.length = d.vec.length
  hM : d.uM.length = d.vec.length
  hkk : d.k ≤ 1000
  hvals : 1 ≤ d.vals.length ∧ d.vals.length ≤ 3
  hnd : d.vals.Nodup
  hvb : ∀ v ∈ d.vals, -20 ≤ v ∧ v ≤ 20
  hhs : d.hs.length = d.vals.length
  hD : d.uD.length = d.w
  hws : d.ws.length = d.vals.length
  hws' : d.ws'.length = d.vals.length
  zin : ZIn d.ni d.k d.bv
  zv : ZNB d.vec d.k d.bv
  zp : ZNB d.part d.k d.bv
  zm : ZNB d.marks d.k d.bv
  zR : ZRead d.sg d.ins d.base d.step d.vec d.uR d.k d.bv
  zW : ZWrite d.sg d.ins d.base d.step d.vec d.part d.en d.uW d.k d.bv
  zM : ZMark d.sg d.ins d.base d.step d.marks d.w d.en d.uM d.k d.bv
  zH : ZHits d.sg d.ins d.vals d.hs d.k d.bv
  zD : ZWord d.ws d.w d.hs d.uD d.k d.bv
  zE : ZHeld d.ws d.ws' d.w d.hs d.part d.en d.k d.bv
structure FinH (d : Dat) (H : AH) : Prop where
  hI : H d.iA = some (.list (d.ins.map I))
  hV : H d.vA = some (.list (d.vec.map I))
  hP : H d.qA = some (.list (d.part.map I))
  hM : H d.mA = some (.list (d.marks.map I))
  hR : H d.aR = some (.list (d.uR.map I))
  hW : H d.aW = some (.list (d.uW.map I))
  hK : H d.aM = some (.list (d.uM.map I))
  hVal : H d.valA = some (.list (d.vals.map I))
  hH : H d.hA = some (.list (d.hs.map I))
  hMem : H d.memA = some (.list (d.ws.map fun q => Rf q.1))
  hMemI : ∀ q ∈ d.ws, H q.1 = some (.list (q.2.map I))
  hWd : H d.wdA = some (.list (d.uD.map I))
  hHe : H d.heA = some (.list (d.ws'.map fun q => Rf q.1))
  hHeI : ∀ q ∈ d.ws', H q.1 = some (.list (q.2.map I))
theorem FinH.ext {d : Dat} {H H' : AH} (h : FinH d H) (e : Ext H H') : FinH d H' :=
  ⟨e _ _ h.hI, e _ _ h.hV, e _ _ h.hP, e _ _ h.hM, e _ _ h.hR, e _ _ h.hW, e _ _ h.hK, e _ _ h.hVal, e _ _ h.hH, e _ _ h.hMem, fun q hq => e _ _ (h.hMemI q hq), e _ _ h.hWd, e _ _ h.hHe, fun q hq => e _ _ (h.hHeI q hq)⟩
structure FinI (d : Dat) (H : AH) : Prop where
  st : ST d.x d.k d.bv H
  hli : H d.x.li = some (.list [Rf d.t1, Rf d.t2])
  ht1 : H d.t1 = some (.tup [S "i", Rf d.d1])
  hd1 : H d.d1 = some (.list ((rngI 2 d.ni).map I))
  ht2 : H d.t2 = some (.tup [S "d", Rf d.d2])
  hd2 : H d.d2 = some (.list ((rngI (2 + d.ni) 3).map I))
noncomputable abbrev namesD (d : Dat) : List (Str × Value) := [("held", Rf d.heA), ("word", Rf d.wdA), ("memory", Rf d.memA), ("hits", Rf d.hA), ("values", Rf d.valA), ("marked_bits", Rf d.aM), ("put_bits_in", Rf d.aW), ("picked_bits", Rf d.aR), ("enable", I d.en), ("marks", Rf d.mA), ("part", Rf d.qA), ("vector", Rf d.vA), ("wide", IN d.w), ("base", I d.base), ("step", I d.step), ("signed", .bool d.sg), ("index", Rf d.iA), ("net", Rf d.x.n)]
noncomputable def Mid4 (H : AH) (m : Ms) : Prop := ∃ d : Dat, FinZ d ∧ FinH d H ∧ FinI d H ∧ Has m (namesD d)
theorem rngI_nodup {k : Int} {w : Nat} : (rngI k w).Nodup := by
  unfold rngI
  refine List.Pairwise.map _ (fun a b h => ?_) (List.nodup_range (n := w))
  intro e; exact h (by (exact om317 e))
section
variable {c : Cx} {x : Ad} {k : Int} {bv : BV} {H : AH} {hd cl : Addr} {ns : List Int} {F : List (Addr × AObj)} {Z : Int → BV → Prop}
end
end Mine
namespace Mine
open PySem PySem.W PySem.Calls PyProof.Rows
/-! the plain law -/
noncomputable def bz (bv : BV) (r : Nat) (us : List Int) : List Int := us.map fun a => b2i (bv a r)
theorem bz_len {bv : BV} {r : Nat} {us : List Int} : (bz bv r us).length = us.length := by unfold bz; simp
theorem bz_getD {bv : BV} {r j : Nat} {us : List Int} (h0 : bv 0 r = false) : (bz bv r us).getD j 0 = b2i (bv (us.getD j 0) r) := by
  unfold bz
  rw [List.getD_eq_getElem?_getD, List.getD_eq_getElem?_getD, List.getElem?_map]
  cases us[j]? with
  | none => simp [h0, b2i]
  | some a => rfl
theorem Sp.bz {us : List Int} {φ : Nat → Nat → Bool} {k : Int} {bv : BV} (q : Sp k bv us φ) (r : Nat) : Mine.bz bv r us = (List.range us.length).map fun j => b2i (φ j r) := by
  refine List.ext_getElem? fun j => ?_
  unfold Mine.bz
  rw [List.getElem?_map, List.getElem?_map]
  cases e : us[j]? with
  | none => rw [List.getElem?_eq_none (by have := List.getElem?_eq_none_iff.mp e; simpa using this)]; rfl
  | some a =>
    have hj := (List.getElem?_eq_some_iff.mp e).1
    rw [List.getElem?_range hj]
    show some (b2i (bv a r)) = some _
    rw [(q j a e).2.2 r]
noncomputable def Dat.val (d : Dat) (r : Nat) : Int := iv d.sg (d.ins.map (d.bv · r))
noncomputable def Dat.low (d : Dat) (r : Nat) : Int := (d.val r - d.base) * d.step
theorem Dat.low_eq (d : Dat) (r : Nat) : lowOf d.sg d.ins d.bv d.base d.step r = d.low r := rfl
theorem b2i_and {a b : Bool} : b2i (a && b) = if a = true then b2i b else 0 := by cases a <;> rfl
theorem map_range_congr {n : Nat} {f g : Nat → Int} (h : ∀ j, j < n → f j = g j) : (List.range n).map f = (List.range n).map g := List.map_congr_left fun j hj => h j (List.mem_range.mp hj)
section
variable {d : Dat} {r : Nat}
theorem plainR (h : FinZ d) (h0 : d.bv 0 r = false) : bz d.bv r d.uR = (List.range d.w).map fun p : Nat => if 0 ≤ d.low r + p ∧ d.low r + p < d.vec.length then (bz d.bv r d.vec).getD (d.low r + p).toNat 0 else 0 := by
  rw [h.zR.2.2.2.bz r, h.hR]
  refine map_range_congr fun p _ => ?_
  rw [Dat.low_eq, b2i_and, bz_getD h0]
  by_cases z : 0 ≤ d.low r + p ∧ d.low r + p < d.vec.length
  · rw [if_pos (decide_eq_true z), if_pos z]
  · rw [if_neg (by rw [decide_eq_false z]; exact Bool.false_ne_true), if_neg z]
theorem plainW (h : FinZ d) (h0 : d.bv 0 r = false) : bz d.bv r d.uW = (List.range d.vec.length).map fun t : Nat => if (d.bv d.en r && inP (d.low r) d.w t) = true then (bz d.bv r d.part).getD (t - d.low r).toNat 0 else (bz d.bv r d.vec).getD t 0 := by
  rw [h.zW.2.2.2.2.2.bz r, h.hW]
  refine map_range_congr fun t _ => ?_
  rw [Dat.low_eq, h.hpart, bz_getD h0, bz_getD h0]
  split
  · rfl
  · rfl
theorem plainM (h : FinZ d) (h0 : d.bv 0 r = false) : bz d.bv r d.uM = (List.range d.vec.length).map fun t : Nat => if (d.bv d.en r && inP (d.low r) d.w t) = true then 1 else (bz d.bv r d.marks).getD t 0 := by
  rw [h.zM.2.2.2.2.bz r, h.hM]
  refine map_range_congr fun t _ => ?_
  rw [Dat.low_eq, bz_getD h0]
  split
  · rename_i e; rw [e, Bool.or_true]; rfl
  · rename_i e; rw [Bool.eq_false_iff.mpr e, Bool.or_false]
theorem plainH (h : FinZ d) : bz d.bv r d.hs = d.vals.map fun v => b2i (decide (d.val r = v)) := by
  rw [h.zH.2.bz r, h.hhs]
  refine List.ext_getElem? fun j => ?_
  rw [List.getElem?_map, List.getElem?_map]
  by_cases hj : j < d.vals.length
  · rw [List.getElem?_range hj, List.getElem?_eq_getElem hj]
    show some (b2i (decide (d.val r = d.vals.getD j 0))) = some _
    rw [List.getD_eq_getElem?_getD, List.getElem?_eq_getElem hj]; rfl
  · rw [List.getElem?_eq_none (by simpa using hj), List.getElem?_eq_none (by simpa using hj)]; rfl
theorem hit_at (h : FinZ d) {t : Nat} (ht : t < d.vals.length) : d.bv (d.hs.getD t 0) r = decide (d.val r = d.vals.getD t 0) := by
  obtain ⟨a, ha, _, _, hg⟩ := atI (ns := d.hs) (i := t) (by rw [h.hhs]; exact ht)
  rw [hg, (h.zH.2 t a ha).2.2 r]; rfl
theorem hit_one (h : FinZ d) {t : Nat} (ht : t < d.vals.length) (hm : d.val r ∈ d.vals) : decide (d.val r = d.vals.getD t 0) = decide (t = d.vals.idxOf (d.val r)) := by
  have hi := List.idxOf_lt_length_of_mem hm
  have hg : d.vals[d.vals.idxOf (d.val r)] = d.val r := List.getElem_idxOf hi
  refine decide_eq_decide.mpr ⟨fun e => ?_, fun e => ?_⟩
  · rw [List.getD_eq_getElem?_getD, List.getElem?_eq_getElem ht] at e
    exact (List.getElem_inj h.hnd).mp (e.symm.trans hg.symm)
  · subst e; rw [List.getD_eq_getElem?_getD, List.getElem?_eq_getElem hi]; exact hg.symm
theorem hit_no (h : FinZ d) {t : Nat} (ht : t < d.vals.length) (hm : d.val r ∉ d.vals) : decide (d.val r = d.vals.getD t 0) = false := by
  refine decide_eq_false fun e => hm ?_
  rw [List.getD_eq_getElem?_getD, List.getElem?_eq_getElem ht] at e
  rw [e]; exact List.getElem_mem ht
theorem plainD1 (h : FinZ d) (hm : d.val r ∈ d.vals) {q : Addr × List Int} (hq : d.ws[d.vals.idxOf (d.val r)]? = some q) : bz d.bv r d.uD = bz d.bv r q.2 := by
  have hi := List.idxOf_lt_length_of_mem hm
  have hql := (h.zD.1 q (List.mem_of_getElem? hq)).1
  rw [h.zD.2.2.2.bz r, h.hD]
  refine List.ext_getElem? fun p => ?_
  unfold bz
  rw [List.getElem?_map, List.getElem?_map]
  by_cases hp : p < d.w
  · rw [List.getElem?_range hp, List.getElem?_eq_getElem (by (exact om196 hql hp))]
    show some (b2i ((List.range (List.length d.ws)).any fun t => d.bv (d.hs.getD t 0) r && d.bv (wd d.ws t p) r)) = some (b2i (d.bv (q.2[p]'(by (exact om196 hql hp))) r))
    refine congrArg (fun b => some (b2i b)) ?_
    have e1 : d.bv (d.hs.getD (d.vals.idxOf (d.val r)) 0) r = true := by rw [hit_at h hi, hit_one h hi hm]; exact decide_eq_true rfl
    have e2 : wd d.ws (d.vals.idxOf (d.val r)) p = q.2[p] := by unfold wd; rw [hq]; show q.2.getD p 0 = _; rw [List.getD_eq_getElem?_getD, List.getElem?_eq_getElem (by (exact om196 hql hp))]; rfl
    cases z : d.bv (q.2[p]'(by (exact om196 hql hp))) r with
    | true => exact List.any_eq_true.mpr ⟨_, List.mem_range.mpr (by rw [h.hws]; exact hi), by rw [e1, e2, z]; rfl⟩
    | false =>
      refine List.any_eq_false.mpr fun t ht => ?_
      have ht := List.mem_range.mp ht
      rw [h.hws] at ht
      rw [hit_at h ht, hit_one h ht hm]
      by_cases y : t = d.vals.idxOf (d.val r)
      · subst y; rw [e2, z]; simp
      · rw [decide_eq_false y]; simp
  · rw [List.getElem?_eq_none (by simpa using hp), List.getElem?_eq_none (by (exact om318 hql hp))]; rfl
theorem plainD0 (h : FinZ d) (hm : d.val r ∉ d.vals) : bz d.bv r d.uD = List.replicate d.w 0 := by
  rw [h.zD.2.2.2.bz r, h.hD]
  refine List.eq_replicate_iff.mpr ⟨by simp, fun b hb => ?_⟩
  obtain ⟨p, hp, rfl⟩ := List.mem_map.mp hb
  rw [List.any_eq_false.mpr fun t ht => ?_]; rfl
  have ht := List.mem_range.mp ht
  rw [h.hws] at ht
  rw [hit_at h ht, hit_no h ht hm]; simp
theorem plainE (h : FinZ d) {t : Nat} {q q' : Addr × List Int} (hq : d.ws[t]? = some q) (hq' : d.ws'[t]? = some q') : bz d.bv r q'.2 = if (decide (d.val r = d.vals.getD t 0) && d.bv d.en r) = true then bz d.bv r d.part else bz d.bv r q.2 := by
  obtain ⟨z1, z2, z3, z4, z5, z6, z7⟩ := h.zE
  have ht := (List.getElem?_eq_some_iff.mp hq).1
  have l1 := (z1 q (List.mem_of_getElem? hq)).1
  have l2 := (z2 q' (List.mem_of_getElem? hq')).1
  have e : ∀ p, p < d.w → d.bv (q'.2.getD p 0) r = if (decide (d.val r = d.vals.getD t 0) && d.bv d.en r) = true then d.bv (d.part.getD p 0) r else d.bv (q.2.getD p 0) r := fun p hp => by
    have := z7 t p r ht hp
    rw [hit_at h (by rw [← h.hws]; exact ht)] at this
    unfold wd at this
    rw [hq, hq'] at this
    exact this
  have key : ∀ us : List Int, us.length = d.w → (∀ p, p < d.w → d.bv (q'.2.getD p 0) r = d.bv (us.getD p 0) r) → bz d.bv r q'.2 = bz d.bv r us := fun us hu he => by
    refine List.ext_getElem? fun p => ?_
    unfold bz
    rw [List.getElem?_map, List.getElem?_map]
    by_cases hp : p < d.w
    · have := he p hp
      rw [List.getD_eq_getElem?_getD, List.getD_eq_getElem?_getD, List.getElem?_eq_getElem (by (exact om319 l2 hu hp)), List.getElem?_eq_getElem (by (exact om225 l2 hu hp))] at this
      rw [List.getElem?_eq_getElem (by (exact om319 l2 hu hp)), List.getElem?_eq_getElem (by (exact om225 l2 hu hp))]
      exact congrArg (fun b => some (b2i b)) this
    · rw [List.getElem?_eq_none (by (exact om320 l2 hu hp)), List.getElem?_eq_none (by (exact om321 l2 hu hp))]
  split
  · rename_i y; exact key _ h.hpart fun p hp => by rw [e p hp, if_pos y]
  · rename_i y; exact key _ l1 fun p hp => by rw [e p hp, if_neg y]
end
end Mine
namespace Mine
open PySem PySem.W PySem.Calls PyProof.Rows
theorem lay_small {ns : List Int} (hl : ns.length ≤ 100) (hb : ∀ v ∈ ns, -20 ≤ v ∧ v ≤ 20) : PyData.layable0 (.list (ns.map .int)) = true := by
  have hw : PyData.weightAll (ns.map .int) ≤ 40 * ns.length := by
    clear hl
    induction ns with
    | nil => exact Nat.zero_le _
    | cons a r ih =>
      have ih := ih fun v hv => hb v (.tail _ hv)
      have ha := hb a (.head _)
      rw [List.map_cons, List.length_cons]
      unfold PyData.weightAll PyData.weight
      have : a.natAbs.log2 ≤ a.natAbs := Nat.log2_le_self _
      split <;> omega
  unfold PyData.layable0
  rw [Bool.and_eq_true, Bool.and_eq_true]
  refine ⟨⟨?_, ?_⟩, ?_⟩
  · unfold PyData.canLay0; exact canLay_ints
  · refine decide_eq_true ?_
    unfold PyData.depth; rw [depth_ints]; decide
  · refine decide_eq_true ?_
    unfold PyData.weight; (exact om323 hl hw)
theorem LL.ext {H H' : AH} {vs : List Value} {ns : List (List Int)} (h : LL H vs ns) (e : Ext H H') : LL H' vs ns := by
  induction h with
  | nil => exact .nil
  | cons h1 _ ih => obtain ⟨l, a, b⟩ := h1; exact .cons ⟨l, a, e _ _ b⟩ ih
theorem LL.snoc {H : AH} {vs : List Value} {ns : List (List Int)} (h : LL H vs ns) {l : Addr} {n : List Int} (hl : H l = some (.list (n.map I))) : LL H (vs ++ [Rf l]) (ns ++ [n]) := by
  induction h with
  | nil => exact .cons ⟨l, rfl, hl⟩ .nil
  | cons h1 _ ih => exact .cons h1 ih
theorem LL.len {H : AH} {vs : List Value} {ns : List (List Int)} (h : LL H vs ns) : vs.length = ns.length := by
  induction h with
  | nil => rfl
  | cons _ _ ih => simp [ih]
theorem LL.get {H : AH} {vs : List Value} {ns : List (List Int)} (h : LL H vs ns) {i : Nat} {n : List Int} (hn : ns[i]? = some n) : ∃ l : Addr, vs[i]? = some (Rf l) ∧ H l = some (.list (n.map I)) := by
  induction h generalizing i with
  | nil => simp at hn
  | cons h1 _ ih =>
    obtain ⟨l, a, b⟩ := h1
    cases i with
    | zero => cases hn; exact ⟨l, by rw [a]; rfl, b⟩
    | succ i => exact ih hn
theorem LL.set {H : AH} {vs : List Value} {ns : List (List Int)} (h : LL H vs ns) {l : Addr} {n : List Int} (hl : H l = some (.list (n.map I))) (i : Nat) : LL H (vs.set i (Rf l)) (ns.set i n) := by
  induction h generalizing i with
  | nil => exact .nil
  | cons h1 h2 ih =>
    cases i with
    | zero => exact .cons ⟨l, rfl, hl⟩ h2
    | succ i => exact .cons h1 (ih i)
theorem range_set {n i : Nat} {f : Nat → Int} {v : Int} : ((List.range n).map f).set i v = (List.range n).map fun t => if t = i then v else f t := by
  refine List.ext_getElem? fun j => ?_
  by_cases z : j = i
  · subst z
    by_cases hj : j < n
    · rw [List.getElem?_set_self (by simpa using hj), List.getElem?_map, List.getElem?_range hj]; simp
    · rw [List.getElem?_eq_none (by simpa using hj), List.getElem?_eq_none (by simpa using hj)]
  · rw [List.getElem?_set_ne (Ne.symm z), List.getElem?_map, List.getElem?_map]
    by_cases hj : j < n
    · rw [List.getElem?_range hj]; simp [z]
    · rw [List.getElem?_eq_none (by simpa using hj)]; rfl
section
variable {c : Cx} {H : AH} {env : Env} {m : Ms} {A : Around} {k : Int} {bv : BV}
theorem bits_turn {p1 p2 p3 p4 p5 p6 p7 p8 p9 : Pos} {k1 k2 : Nat} {Dw : Addr} {kvs : List (Int × Value)} {R row : Nat} {a : Int} {Q : Value → AH → Prop} (hk : env.scope.kind = .function) (hw : m (Str.ofString "words") = some (Rf Dw)) (hr : m (Str.ofString "row") = some (IN row)) (ho : m (Str.ofString "one") = some (I a))
    (hd : H Dw = some (.idict kvs)) (W : WD kvs k bv R) (ha : 0 ≤ a ∧ a < k) (hrow : row < R) (hR : R ≤ 60) (q : Q (I (b2i (bv a row))) H) :
    EV c A env (eval (.BinOp (.BinOp (.Subscript (.Name (Str.ofString "words") p1) (.Name (Str.ofString "one") p2) p3) .FloorDiv (.BinOp (.Constant (.int 2) k1 p4) .Pow (.Name (Str.ofString "row") p5) p6) p7) .Mod (.Constant (.int 2) k2 p8) p9) env) H m Q := by
  obtain ⟨n, hv, hlt, hb⟩ := W a ha.1 ha.2
  refine EV.bin <| EV.bin <| EV.itemD <| EV.name hw (EV.name ho ⟨Dw, kvs, a, _, rfl, rfl, hd, hv, EV.bin <| EV.int <| EV.name hr ⟨_, BO.pow (by (exact om114)) (by (exact om271 hrow hR)) (by decide), _, BO.floordiv pow_ne (natAbs_pow (by (exact om272 hrow hR))), EV.int ⟨_, BO.mod (by decide), ?_⟩⟩ hk⟩ hk) hk
  rw [bitw, hb row hrow]; exact q
theorem EV.bitsC {iter : Expr} {px p1 p2 p3 p4 p5 p6 p7 p8 p9 pos : Pos} {k1 k2 : Nat} {scope : Scope} {Dw : Addr} {kvs : List (Int × Value)} {R row : Nat} {Q : Value → AH → Prop} (hh : A.handled = none) (hw : m (Str.ofString "words") = some (Rf Dw)) (hr : m (Str.ofString "row") = some (IN row)) (W : WD kvs k bv R) (hrow : row < R) (hR : R ≤ 60)
    (h : EV c A env (eval iter env) H m (fun v H0 => ∃ (l : Addr) (us : List Int), v = Rf l ∧ H0 l = some (.list (us.map I)) ∧ us.length ≤ 100 ∧ H0 Dw = some (.idict kvs) ∧ (∀ a ∈ us, 0 ≤ a ∧ a < k) ∧ ∀ D, H0 D = none → Q (Rf D) (upd H0 D (.list ((bz bv row us).map I)))))
    (c1 : autoParam ((relabel scope env).names.lookup (Str.ofString "words") = some .cell) autoRfl) (c2 : autoParam ((relabel scope env).names.lookup (Str.ofString "row") = some .cell) autoRfl)
    (hf : autoParam (freeOk scope env = true) autoRfl) (hkind : autoParam (scope.kind = .function) autoRfl) (hnames : autoParam (∀ y ∈ scope.names, y.2 = .local → scope.names.lookup y.1 = some .local) autoDec) (hx : autoParam (scope.names.lookup (Str.ofString "one") = some .local) autoRfl)
    (hs : autoParam (∀ x, foldedSetIterable iter env x = pure x) autoRfl1) :
    EV c A env (eval (.ListComp (.BinOp (.BinOp (.Subscript (.Name (Str.ofString "words") p1) (.Name (Str.ofString "one") p2) p3) .FloorDiv (.BinOp (.Constant (.int 2) k1 p4) .Pow (.Name (Str.ofString "row") p5) p6) p7) .Mod (.Constant (.int 2) k2 p8) p9) [⟨.Name (Str.ofString "one") px, iter, [], 0⟩] scope pos) env) H m Q :=
  EV.compL hh (h.mono fun v H0 ⟨l, us, e, hl, hz, hd, hu, q⟩ => ⟨l, us.map I, fun i ys H' => H' = H0 ∧ ys = ((bz bv row us).take i).map I ∧ i ≤ us.length, e, by rw [List.length_map]; (exact om306 hz), fun i ys H' ⟨e1, e2, e3⟩ => ⟨by rw [e1]; exact hl, by rw [e2, List.length_map, List.length_take, bz_len]; (exact om324 (by assumption))⟩, ⟨rfl, rfl, Nat.zero_le _⟩,
    fun C cl i v ys H1 hv ⟨e1, e2, e3⟩ => by
      obtain ⟨a, ha, rfl, hmem, hlt, _⟩ := getI hv
      subst e1
      refine bits_turn hkind (Dw := Dw) (kvs := kvs) ?_ ?_ (mset_self ..) hd W (hu a hmem) hrow hR ⟨rfl, ?_, hlt⟩
      · rw [mset_ne _ _ (by decide)]; unfold capt; rw [if_pos c1]; exact hw
      · rw [mset_ne _ _ (by decide)]; unfold capt; rw [if_pos c2]; exact hr
      · rw [e2, List.take_add_one, List.map_append]; unfold bz; rw [List.getElem?_map, ha]; rfl,
    fun ys H1 D ⟨e1, e2, e3⟩ hD => by
      subst e1
      rw [List.length_map, ← bz_len (bv := bv) (r := row), List.take_length] at e2
      rw [e2]; exact q D hD⟩) hf hkind hnames hx hs
theorem EX.setbitsC {y : Str} {py : Pos} {iter : Expr} {px p1 p2 p3 p4 p5 p6 p7 p8 p9 pos spos : Pos} {k1 k2 : Nat} {scope : Scope} {Dw : Addr} {kvs : List (Int × Value)} {R row : Nat} {N : List (Str × Value)} {rest : List Stmt} {Q : Flow → AH → Ms → Prop} (hm : Has m N) (hh : A.handled = none) (hw : m (Str.ofString "words") = some (Rf Dw)) (hr : m (Str.ofString "row") = some (IN row)) (W : WD kvs k bv R) (hrow : row < R) (hR : R ≤ 60)
    (h : EV c A env (eval iter env) H m (fun v H0 => ∃ (l : Addr) (us : List Int), v = Rf l ∧ H0 l = some (.list (us.map I)) ∧ us.length ≤ 100 ∧ H0 Dw = some (.idict kvs) ∧ (∀ a ∈ us, 0 ≤ a ∧ a < k) ∧ ∀ D, H0 D = none → ∀ m1, Has m1 ((y, Rf D) :: N) → EX c A env (execs rest env) (upd H0 D (.list ((bz bv row us).map I))) m1 Q))
    (hfn : autoParam ((N.any fun p => p.1 == y) = false) autoRfl) (st : autoParam (stOk env y = true) autoRfl)
    (hsw : swapsWith (.ListComp (.BinOp (.BinOp (.Subscript (.Name (Str.ofString "words") p1) (.Name (Str.ofString "one") p2) p3) .FloorDiv (.BinOp (.Constant (.int 2) k1 p4) .Pow (.Name (Str.ofString "row") p5) p6) p7) .Mod (.Constant (.int 2) k2 p8) p9) [⟨.Name (Str.ofString "one") px, iter, [], 0⟩] scope pos) (some (.Name y py)) spos.line env = pure true := by rfl)
    (c1 : autoParam ((relabel scope env).names.lookup (Str.ofString "words") = some .cell) autoRfl) (c2 : autoParam ((relabel scope env).names.lookup (Str.ofString "row") = some .cell) autoRfl)
    (hf : autoParam (freeOk scope env = true) autoRfl) (hkind : autoParam (scope.kind = .function) autoRfl) (hnames : autoParam (∀ y ∈ scope.names, y.2 = .local → scope.names.lookup y.1 = some .local) autoDec) (hx : autoParam (scope.names.lookup (Str.ofString "one") = some .local) autoRfl)
    (hs : autoParam (∀ x, foldedSetIterable iter env x = pure x) autoRfl1) :
    EX c A env (execs (.Assign [.Name y py] (.ListComp (.BinOp (.BinOp (.Subscript (.Name (Str.ofString "words") p1) (.Name (Str.ofString "one") p2) p3) .FloorDiv (.BinOp (.Constant (.int 2) k1 p4) .Pow (.Name (Str.ofString "row") p5) p6) p7) .Mod (.Constant (.int 2) k2 p8) p9) [⟨.Name (Str.ofString "one") px, iter, [], 0⟩] scope pos) spos :: rest) env) H m Q :=
  EX.cons <| EX.setcompL hh (h.mono fun v H0 ⟨l, us, e, hl, hz, hd, hu, q⟩ => ⟨l, us.map I, fun i ys H' => H' = H0 ∧ ys = ((bz bv row us).take i).map I ∧ i ≤ us.length, e, by rw [List.length_map]; (exact om306 hz), fun i ys H' ⟨e1, e2, e3⟩ => ⟨by rw [e1]; exact hl, by rw [e2, List.length_map, List.length_take, bz_len]; (exact om324 (by assumption))⟩, ⟨rfl, rfl, Nat.zero_le _⟩,
    fun C cl i v ys H1 hv ⟨e1, e2, e3⟩ => by
      obtain ⟨a, ha, rfl, hmem, hlt, _⟩ := getI hv
      subst e1
      refine bits_turn hkind (Dw := Dw) (kvs := kvs) ?_ ?_ (mset_self ..) hd W (hu a hmem) hrow hR ⟨rfl, ?_, hlt⟩
      · rw [mset_ne _ _ (by decide)]; unfold capt; rw [if_pos c1]; exact hw
      · rw [mset_ne _ _ (by decide)]; unfold capt; rw [if_pos c2]; exact hr
      · rw [e2, List.take_add_one, List.map_append]; unfold bz; rw [List.getElem?_map, ha]; rfl,
    fun ys H1 D ⟨e1, e2, e3⟩ hD => by
      subst e1
      rw [List.length_map, ← bz_len (bv := bv) (r := row), List.take_length] at e2
      rw [e2]; exact q D hD _ (hm.push hfn)⟩) st hsw hf hkind hnames hx hs
end
end Mine
namespace Mine
open PySem PySem.W PySem.Calls PyProof.Rows
theorem inP_succ {lw : Int} {i t : Nat} : inP lw ((i + 1 : Nat) : Int) t = (inP lw i t || decide ((t : Int) = lw + i)) := by
  unfold inP
  rw [← Bool.decide_or]
  refine decide_eq_decide.mpr ?_
  (exact om325)
theorem inP_zero {lw : Int} {t : Nat} : inP lw ((0 : Nat) : Int) t = false := decide_eq_false (by (exact om326))
noncomputable def mixF (on : Bool) (lw : Int) (G B : Nat → Int) (i t : Nat) : Int := if (on && inP lw i t) = true then G t else B t
theorem mix_zero {on : Bool} {lw : Int} {G B : Nat → Int} {t : Nat} : mixF on lw G B 0 t = B t := by
  unfold mixF; rw [inP_zero, Bool.and_false]; rfl
theorem mix_skip {on : Bool} {lw : Int} {G B : Nat → Int} {i n : Nat} (h : ¬ (on = true ∧ 0 ≤ lw + i ∧ lw + i < n)) : (List.range n).map (mixF on lw G B (i + 1)) = (List.range n).map (mixF on lw G B i) := by
  refine map_range_congr fun t ht => ?_
  unfold mixF
  cases on with
  | false => rfl
  | true =>
    rw [inP_succ, decide_eq_false (by intro e; exact h ⟨rfl, by (exact om327 e), by (exact om328 ht e)⟩), Bool.or_false]
theorem mix_set {on : Bool} {lw : Int} {G B : Nat → Int} {i n : Nat} {v : Int} (h : on = true) (h0 : 0 ≤ lw + i) (hv : v = G (lw + i).toNat) : ((List.range n).map (mixF on lw G B i)).set (lw + i).toNat v = (List.range n).map (mixF on lw G B (i + 1)) := by
  rw [range_set]
  refine map_range_congr fun t ht => ?_
  unfold mixF
  subst h
  rw [inP_succ]
  by_cases z : t = (lw + i).toNat
  · rw [if_pos z, decide_eq_true (by (exact om329 h0 z)), Bool.or_true, hv, z]; rfl
  · rw [if_neg z, decide_eq_false (by (exact om330 z)), Bool.or_false]
theorem range_getD {l : List Int} : (List.range l.length).map (fun t => l.getD t 0) = l := by
  refine List.ext_getElem? fun j => ?_
  rw [List.getElem?_map]
  by_cases hj : j < l.length
  · rw [List.getElem?_range hj, List.getElem?_eq_getElem hj]
    show some (l.getD j 0) = _
    rw [List.getD_eq_getElem?_getD, List.getElem?_eq_getElem hj]; rfl
  · rw [List.getElem?_eq_none (by simpa using hj), List.getElem?_eq_none (by (exact om55 hj))]; rfl
noncomputable def Dat.due (d : Dat) (row i : Nat) : List Int := (List.range d.vec.length).map (mixF (d.bv d.en row) (d.low row) (fun t => (bz d.bv row d.part).getD (t - d.low row).toNat 0) (fun t => (bz d.bv row d.vec).getD t 0) i)
noncomputable def Dat.flg (d : Dat) (row i : Nat) : List Int := (List.range d.vec.length).map (mixF (d.bv d.en row) (d.low row) (fun _ => 1) (fun t => (bz d.bv row d.marks).getD t 0) i)
theorem due_zero (d : Dat) (row : Nat) : d.due row 0 = bz d.bv row d.vec := by
  unfold Dat.due
  rw [map_range_congr (g := fun t => (bz d.bv row d.vec).getD t 0) fun t _ => mix_zero]
  conv => rhs; rw [← range_getD (l := bz d.bv row d.vec)]
  rw [bz_len]
theorem flg_zero (d : Dat) (h : FinZ d) (row : Nat) : d.flg row 0 = bz d.bv row d.marks := by
  unfold Dat.flg
  rw [map_range_congr (g := fun t => (bz d.bv row d.marks).getD t 0) fun t _ => mix_zero]
  conv => rhs; rw [← range_getD (l := bz d.bv row d.marks)]
  rw [bz_len, h.hmarks]
theorem due_end (d : Dat) (h : FinZ d) (row : Nat) (h0 : d.bv 0 row = false) : bz d.bv row d.uW = d.due row d.w := plainW h h0
theorem flg_end (d : Dat) (h : FinZ d) (row : Nat) (h0 : d.bv 0 row = false) : bz d.bv row d.uM = d.flg row d.w := plainM h h0
theorem due_len (d : Dat) (row i : Nat) : (d.due row i).length = d.vec.length := by unfold Dat.due; simp
theorem flg_len (d : Dat) (row i : Nat) : (d.flg row i).length = d.vec.length := by unfold Dat.flg; simp
noncomputable def Dat.sb (d : Dat) (row : Nat) : List (List Int) := d.ws.map fun q => bz d.bv row q.2
noncomputable def Dat.hb (d : Dat) (row : Nat) : List (List Int) := d.ws'.map fun q => bz d.bv row q.2
theorem hb_get (d : Dat) (h : FinZ d) (r t : Nat) : (d.hb r)[t]? = (d.sb r)[t]?.map fun o => if (decide (d.val r = d.vals.getD t 0) && d.bv d.en r) = true then bz d.bv r d.part else o := by
  unfold Dat.hb Dat.sb
  rw [List.getElem?_map, List.getElem?_map]
  by_cases ht : t < d.ws.length
  · have h2 : t < d.ws'.length := by rw [h.hws', ← h.hws]; exact ht
    have e1 := List.getElem?_eq_getElem ht
    have e2 := List.getElem?_eq_getElem h2
    rw [e1, e2]
    exact congrArg some (plainE h e1 e2)
  · have h2 : d.ws'.length ≤ t := by rw [h.hws', ← h.hws]; (exact om55 ht)
    have h3 : d.ws.length ≤ t := by (exact om55 ht)
    rw [List.getElem?_eq_none h2, List.getElem?_eq_none h3]; rfl
theorem held_set (d : Dat) (h : FinZ d) (r : Nat) (on : d.bv d.en r = true) (hm : d.val r ∈ d.vals) : d.hb r = (d.sb r).set (d.vals.idxOf (d.val r)) (bz d.bv r d.part) := by
  have hl : (d.sb r).length = d.vals.length := by unfold Dat.sb; rw [List.length_map, h.hws]
  have hi := List.idxOf_lt_length_of_mem hm
  refine List.ext_getElem? fun t => ?_
  rw [hb_get d h]
  by_cases ht : t < d.vals.length
  · rw [hit_one h ht hm, on, Bool.and_true]
    by_cases z : t = d.vals.idxOf (d.val r)
    · subst z
      rw [List.getElem?_set_self (by rw [hl]; exact hi), List.getElem?_eq_getElem (by rw [hl]; exact hi), decide_eq_true rfl]; rfl
    · rw [List.getElem?_set_ne (Ne.symm z), decide_eq_false z]
      cases (d.sb r)[t]? <;> rfl
  · rw [List.getElem?_eq_none (by (exact om318 hl ht)), List.getElem?_eq_none (by rw [List.length_set]; (exact om318 hl ht))]; rfl
theorem held_same (d : Dat) (h : FinZ d) (r : Nat) (hn : ¬ (d.bv d.en r = true ∧ d.val r ∈ d.vals)) : d.hb r = d.sb r := by
  have hl : (d.sb r).length = d.vals.length := by unfold Dat.sb; rw [List.length_map, h.hws]
  refine List.ext_getElem? fun t => ?_
  rw [hb_get d h]
  by_cases ht : t < d.vals.length
  · have : (decide (d.val r = d.vals.getD t 0) && d.bv d.en r) = false := by
      by_cases on : d.bv d.en r = true
      · rw [hit_no h ht (fun q => hn ⟨on, q⟩)]; rfl
      · rw [Bool.eq_false_iff.mpr on, Bool.and_false]
    rw [this]
    cases (d.sb r)[t]? <;> rfl
  · rw [List.getElem?_eq_none (by (exact om318 hl ht))]; rfl
theorem word_in (d : Dat) (h : FinZ d) (r : Nat) (hm : d.val r ∈ d.vals) : (d.sb r)[d.vals.idxOf (d.val r)]? = some (bz d.bv r d.uD) := by
  have hi := List.idxOf_lt_length_of_mem hm
  rw [← h.hws] at hi
  have e := List.getElem?_eq_getElem hi
  unfold Dat.sb
  rw [List.getElem?_map, e, plainD1 h hm e]; rfl
theorem any_mem {l : List Int} {a : Int} : l.any (· == a) = decide (a ∈ l) := by
  cases e : decide (a ∈ l) with
  | true => exact List.any_eq_true.mpr ⟨a, of_decide_eq_true e, by simp⟩
  | false =>
    refine List.any_eq_false.mpr fun b hb q => of_decide_eq_false e ?_
    have := eq_of_beq q; subst this; exact hb
theorem LL.upd {H : AH} {vs : List Value} {ns : List (List Int)} (h : LL H vs ns) {D : Addr} {o : AObj} (hn : ∀ (l : Addr) (n : List Int), H l = some (.list (n.map I)) → l ≠ D) : LL (Mine.upd H D o) vs ns := by
  induction h with
  | nil => exact .nil
  | cons h1 _ ih =>
    obtain ⟨l, a, b⟩ := h1
    exact .cons ⟨l, a, by rw [upd_ne _ _ (hn _ _ b)]; exact b⟩ ih
theorem LL.head {H : AH} {vs : List Value} {ns : List (List Int)} (h : LL H vs ns) (hl : 1 ≤ ns.length) : ∃ a r, vs = Rf a :: r := by
  cases h with
  | nil => simp at hl
  | cons h1 _ => obtain ⟨l, a, _⟩ := h1; exact ⟨l, _, by rw [a]⟩
end Mine
namespace Mine
open PySem PySem.W PySem.Calls PyProof.Rows
theorem val_b (d : Dat) (h : FinZ d) (r : Nat) : -10 ≤ d.val r ∧ d.val r ≤ 10 := by
  have hl : (d.ins.map (d.bv · r)).length = d.ni := by rw [List.length_map]; exact rngI_len
  have h1 := idx_lt (bs := d.ins.map (d.bv · r))
  rw [hl] at h1
  unfold Dat.val iv
  rw [hl]
  rcases h.hni with e | e <;> rw [e] at h1 ⊢ <;> split <;> (first | exact om331 h1 | exact om332 h1 | exact om333 h1 | exact om334 h1)
section
variable {c : Cx}
end
end Mine
namespace Mine
open PySem PySem.W PySem.Calls PyProof.Rows
theorem ints_er {vs : List Value} {ns : List Int} (h : IntsAre vs ns) : vs.map er = ns.map I := by
  induction h with
  | nil => rfl
  | cons _ _ _ ih => rw [List.map_cons, List.map_cons, ih]; rfl

/-! These small theorems only take names. The head (k_head) makes a quick twin of each of the program's texts that it meets, if the
   name is free; nothing here wants the twins, and they would make the compiled file some 28 MB larger. Nothing is proved by them. -/
theorem main.tw7221758910455160077 : True := trivial
theorem main.tw12205347405646519318 : True := trivial
theorem main.tw10450603732522932521 : True := trivial
theorem main.tw6511744376749373798 : True := trivial
theorem main.tw2406621943657119228 : True := trivial
theorem main.tw5372645768047454471 : True := trivial
theorem main.tw16102231251864390963 : True := trivial
theorem main.tw9268297945177815525 : True := trivial
theorem main.tw14027531716089632829 : True := trivial
theorem main.tw223528310411579522 : True := trivial
theorem main.tw5585478044538960755 : True := trivial
theorem main.tw15806524323241146399 : True := trivial
theorem main.tw11156056980113079860 : True := trivial
theorem main.tw16778611742570070204 : True := trivial
theorem main.tw11101190512080308003 : True := trivial
theorem main.tw4637267157515435788 : True := trivial
theorem main.tw7885402756211317057 : True := trivial
theorem main.tw1632041292262086317 : True := trivial
theorem main.tw13219505800766818778 : True := trivial
theorem main.tw6801380410627298636 : True := trivial
theorem main.tw15485851114877660061 : True := trivial
theorem main.tw2019394398466159022 : True := trivial
theorem main.tw1504049600530537962 : True := trivial
theorem main.tw17052023290607921161 : True := trivial
theorem main.tw4261964983698606537 : True := trivial
theorem main.tw17561526911342447988 : True := trivial
theorem main.tw14457758005677747962 : True := trivial
theorem main.tw16452447596832230105 : True := trivial
theorem main.tw2852251193174398662 : True := trivial
theorem main.tw6361450105264607166 : True := trivial
theorem main.tw9730157408454304684 : True := trivial
theorem main.tw2287757881348798766 : True := trivial
theorem main.tw9302470337196694018 : True := trivial
theorem main.tw2724176850512262202 : True := trivial
theorem main.tw7698036289167662538 : True := trivial
theorem main.tw4452170602077327944 : True := trivial
theorem main.tw1678875084529416142 : True := trivial
theorem main.tw10876375607700338302 : True := trivial
theorem main.tw11221353774195762014 : True := trivial
theorem main.tw9376575566392132001 : True := trivial
theorem main.tw9925469786538053656 : True := trivial
theorem main.tw18332899500509843999 : True := trivial
theorem main.tw16008252555379753968 : True := trivial
theorem main.tw16519101796099990279 : True := trivial
theorem main.tw4900431672193113347 : True := trivial
theorem main.tw13110577991587790113 : True := trivial
theorem main.tw10821422270917381399 : True := trivial
theorem main.tw4775608329324902142 : True := trivial
theorem main.tw1714950047550659301 : True := trivial
theorem main.tw16826212616301561204 : True := trivial
theorem main.tw17974016328880235120 : True := trivial
theorem main.tw18057431132836303928 : True := trivial
theorem main.tw17118054049896295152 : True := trivial
theorem main.tw17336282652733537790 : True := trivial
theorem main.tw5270908104458285503 : True := trivial
theorem main.tw14907226015203709474 : True := trivial
theorem main.tw4500915450034043215 : True := trivial
theorem main.tw16629339528299215175 : True := trivial
theorem main.tw17737603089517620647 : True := trivial
theorem main.tw6886502059237256666 : True := trivial
theorem main.tw5436791530062809996 : True := trivial
theorem main.tw979501456738626862 : True := trivial
theorem main.tw6785657489111691699 : True := trivial
theorem main.tw2496676261509829067 : True := trivial
theorem main.tw5396188567872606041 : True := trivial
theorem main.tw4324958949535026087 : True := trivial
theorem main.tw5613160597433933154 : True := trivial
theorem main.tw8440099810896429113 : True := trivial
theorem main.tw14771111431291430275 : True := trivial
theorem main.tw104360540948158410 : True := trivial
theorem main.tw1615956725737779560 : True := trivial
theorem main.tw6162249291895867263 : True := trivial
theorem main.tw11403851563620829512 : True := trivial
theorem main.tw12361340156312767134 : True := trivial
theorem main.tw10234815189450012239 : True := trivial
theorem main.tw15734660467963936456 : True := trivial
theorem main.tw18134284020713443437 : True := trivial
theorem main.tw2906824675625879941 : True := trivial
theorem main.tw13724616953566380437 : True := trivial
theorem main.tw8478376212529829071 : True := trivial
theorem main.tw17353955331779342651 : True := trivial
theorem main.tw6541472054586571296 : True := trivial
theorem main.tw5102693214775723256 : True := trivial
theorem main.tw9508770018378322450 : True := trivial
theorem main.tw9840939614602229412 : True := trivial
theorem main.tw1720846800190507362 : True := trivial
theorem main.tw65644731488775911 : True := trivial
theorem main.tw9498315638749924794 : True := trivial
theorem main.tw1277820614484962519 : True := trivial
theorem main.tw16320729459185622934 : True := trivial
theorem main.tw13224007501803129859 : True := trivial
theorem main.tw14759895335926876869 : True := trivial
theorem main.tw11544348965984651327 : True := trivial
theorem main.tw8228058824784995430 : True := trivial
theorem main.tw1439166485080882 : True := trivial
theorem main.tw6697339332421208802 : True := trivial
theorem main.tw16091866709009572006 : True := trivial
theorem main.tw16008457594558532635 : True := trivial
theorem main.tw15737690656516749961 : True := trivial
theorem main.tw15017983477296125989 : True := trivial
theorem main.tw1409966394225722968 : True := trivial
theorem main.tw2729793432009153956 : True := trivial
theorem main.tw7186131708394509389 : True := trivial
theorem main.tw7235775444256392728 : True := trivial
theorem main.tw13693970394777133609 : True := trivial
theorem main.tw341453280667917650 : True := trivial
theorem main.tw7268301785047649679 : True := trivial
theorem main.tw17292155258170135553 : True := trivial
theorem main.tw15803610866087392283 : True := trivial
theorem main.tw4544244032028310869 : True := trivial
theorem main.tw10669944970481658594 : True := trivial
theorem main.tw13355152605343272895 : True := trivial
theorem main.tw4297412468100583042 : True := trivial
theorem main.tw2195194259037543316 : True := trivial
theorem main.tw7699798408344515789 : True := trivial
theorem main.tw3045742163950154196 : True := trivial
theorem main.tw11554813239044494598 : True := trivial
theorem main.tw221909299271738847 : True := trivial
theorem main.tw16035907590883218939 : True := trivial
theorem main.tw11461230924637031220 : True := trivial
theorem main.tw2583023086579268501 : True := trivial
theorem main.tw9563168847844234846 : True := trivial
theorem main.tw10877679251791092727 : True := trivial
theorem main.tw15131278010643852716 : True := trivial
theorem main.tw12872379398031375081 : True := trivial
theorem main.tw9976160756891316704 : True := trivial
theorem main.tw3613476055612923068 : True := trivial
theorem main.tw12518504611687188807 : True := trivial
theorem main.tw1826329307503635854 : True := trivial
theorem main.tw18315214858253571532 : True := trivial
theorem main.tw6044114016751833949 : True := trivial
theorem main.tw8466321980469482115 : True := trivial
theorem main.tw2759098988195820126 : True := trivial
theorem main.tw10298723112805639129 : True := trivial
theorem main.tw8988871441479999982 : True := trivial
theorem main.tw12431731261707249289 : True := trivial
theorem main.tw4990475226369331113 : True := trivial
theorem main.tw13838900630717943254 : True := trivial
theorem main.tw7411558596216406370 : True := trivial
theorem main.tw10363585996791799541 : True := trivial
theorem main.tw7293298908176781663 : True := trivial
theorem main.tw9682133043923132273 : True := trivial
theorem main.tw17510229520200029679 : True := trivial
theorem main.tw11752208632293872130 : True := trivial
theorem main.tw17679725944135375923 : True := trivial
theorem main.tw18284262389922463811 : True := trivial
theorem main.tw2238316416991798583 : True := trivial
theorem main.tw2629084897520917108 : True := trivial
theorem main.tw8729708805864041840 : True := trivial
theorem main.tw16356685582667847594 : True := trivial
theorem main.tw6508729118710982530 : True := trivial
theorem main.tw3779293765908593550 : True := trivial
theorem main.tw13626721169425172152 : True := trivial
theorem main.tw302440914744352476 : True := trivial
theorem main.tw7214478077546791972 : True := trivial
theorem main.tw5127751686995613262 : True := trivial
theorem main.tw14061640607465278742 : True := trivial
theorem main.tw11982392923317675503 : True := trivial
theorem main.tw17223442867436993403 : True := trivial
theorem main.tw4333880214566435006 : True := trivial
theorem main.tw387501639795913443 : True := trivial
theorem main.tw3960113756560652017 : True := trivial
theorem main.tw10047389527955405517 : True := trivial
theorem main.tw13667920496262714385 : True := trivial
theorem main.tw11710404883906591787 : True := trivial
theorem main.tw14639212616227390028 : True := trivial
theorem main.tw5400957986263281647 : True := trivial
theorem main.tw6862492499505807319 : True := trivial
theorem main.tw16187894506366716058 : True := trivial
theorem main.tw7761410557224570781 : True := trivial
theorem main.tw15514936471743626214 : True := trivial
theorem main.tw1777545030009416734 : True := trivial
theorem main.tw10094358506670053839 : True := trivial
theorem main.tw16153842264607907944 : True := trivial
theorem main.tw2538046985915079169 : True := trivial
theorem main.tw18442785490491869365 : True := trivial
theorem main.tw16798622893749714585 : True := trivial
theorem main.tw16819838333489098493 : True := trivial
theorem main.tw16251939892948500945 : True := trivial
theorem main.tw13590572293223372214 : True := trivial
theorem main.tw1099256609624015869 : True := trivial
theorem main.tw13593839371638185640 : True := trivial
theorem main.tw15465920861327815835 : True := trivial
theorem main.tw13642826006792871662 : True := trivial
theorem main.tw16049902774474827687 : True := trivial
theorem main.tw12483276189755474720 : True := trivial
theorem main.tw66260789543402106 : True := trivial
theorem main.tw5934864578183450635 : True := trivial
theorem main.tw11815829001073249272 : True := trivial
theorem main.tw8207831470162742035 : True := trivial
theorem main.tw16721930046160240684 : True := trivial
theorem main.tw12298629886278197574 : True := trivial
theorem main.tw9848185148710128376 : True := trivial
theorem main.tw3343439749351644125 : True := trivial
theorem main.tw6112859857366181021 : True := trivial
theorem main.tw16193401482309157537 : True := trivial
theorem main.tw8748973510418095054 : True := trivial
theorem main.tw13402765919934010277 : True := trivial
theorem main.tw11261727412033496967 : True := trivial
theorem main.tw18403998269306519403 : True := trivial
theorem main.tw3549514262204291990 : True := trivial
theorem main.tw1157997071576566072 : True := trivial
theorem main.tw3234112476842188716 : True := trivial
theorem main.tw6447117284088858845 : True := trivial
theorem main.tw14439473939278146460 : True := trivial
theorem main.tw12057704586751987240 : True := trivial
theorem main.tw8930851030842425676 : True := trivial
theorem main.tw13350764725976880583 : True := trivial
theorem main.tw3626430660855392483 : True := trivial
theorem main.tw8475525182357872103 : True := trivial
theorem main.tw3848698983108048278 : True := trivial
theorem main.tw12670839924663504800 : True := trivial
theorem main.tw15768048840197415361 : True := trivial
theorem main.tw14662554035588321541 : True := trivial
theorem main.tw9561784451562097942 : True := trivial
theorem main.tw17477492558424962760 : True := trivial
theorem main.tw8947760058931562597 : True := trivial
theorem main.tw12252054271945606052 : True := trivial
theorem main.tw16922381011570985944 : True := trivial
theorem main.tw9272984997812220495 : True := trivial
theorem main.tw5168723184997046946 : True := trivial
theorem main.tw5665735395497279834 : True := trivial
theorem main.tw6946311139365774590 : True := trivial
theorem main.tw14793117695081215449 : True := trivial
theorem main.tw330327031418712150 : True := trivial
theorem main.tw13676971244355772609 : True := trivial
theorem main.tw9557352009045844224 : True := trivial
theorem main.tw3454311308915712629 : True := trivial
theorem main.tw9069182735580402390 : True := trivial
theorem main.tw16656740534632174751 : True := trivial
theorem main.tw14722489848711283861 : True := trivial
theorem main.tw6910295442248876197 : True := trivial
theorem main.tw6222487380544312443 : True := trivial
theorem main.tw5240536507193477226 : True := trivial
theorem main.tw14672674291997333471 : True := trivial
theorem main.tw15734200111481486640 : True := trivial
theorem main.tw5532463470591059822 : True := trivial
theorem main.tw9670510015898674028 : True := trivial
theorem main.tw14439489856276332995 : True := trivial
theorem main.tw7875838824674609581 : True := trivial
theorem main.tw5401703158475992631 : True := trivial
theorem main.tw3299218664060906527 : True := trivial
set_option Elab.async true in
set_option maxHeartbeats 0 in
theorem main : PySem.Challenge.rw_nn0311_01.Holds := by
 w_on; o_law; k_head; (case hw => w_witness2)
 have clsN : ∀ {c : Cx}, Cls ((Mine.main.heap_1_39 c.w.params)) 144 := by
  as_aux_lemma =>
   intro c
   exact ⟨by rfl, by rfl, by rfl, by rfl, by rfl⟩

 have clsG : ∀ {c : Cx}, Cls ((Mine.main.heap_1_39 c.w.params)) 221 := by
  as_aux_lemma =>
   intro c
   exact ⟨by rfl, by rfl, by rfl, by rfl, by rfl⟩

 have new_net_ok : ∀ {c : Cx} {H : AH} (G : Gl c ((Mine.main.heap_1_39 c.w.params))) {x : Ad} {k : Int} (h1 : H x.n = some (.inst 144 x.dn)) (h2 : H x.dn = some (nsN x k)), FN c 1 (.ref 92) [Rf x.n] H (fun r H' => r = I k ∧ H' = upd H x.dn (nsN x (k + 1))) := by
  as_aux_lemma =>
   intro c H G x k h1 h2
   refine FN.def G (f := 92) (by rfl) (by rfl) (names := ["self"]) (by rfl) (len1 fun _ => by rfl) (fun L => List.all_eq_true.mp (by rfl)) fun A L hA => ?_
   refine EX.cons (EX.set (EV.attr G (EV.name (by rfl) ⟨_, _, _, _, _, rfl, clsN, h1, h2, by rfl, by rfl, rfl, ?_⟩)))
   refine EX.cons (EX.augattr G (EV.name (by rfl) ⟨_, _, _, _, _, rfl, clsN, h1, h2, by rfl, by rfl, by simp, EV.int ⟨_, rfl, h1, h2, ?_⟩⟩))
   exact EX.cons (EX.ret (EV.name (by rfl) ⟨rfl, rfl⟩))

 have drive_ok : ∀ {c : Cx} {H : AH} (G : Gl c ((Mine.main.heap_1_39 c.w.params))) {x : Ad} {k out : Int} {kind : Str} {ti : Addr} {vs is : List Value} (h1 : H x.n = some (.inst 144 x.dn)) (h2 : H x.dn = some (nsN x k)) (h3 : H x.lc = some (.list vs)) (h4 : H ti = some (.tup is)) (hz : vs.length ≤ 1000000), FN c 1 (.ref 127) [Rf x.n, I out, S kind, Rf ti, .none] H (fun r H' => r = .none ∧ ∃ t, H t = none ∧ H' = upd (upd H t (.tup [S kind, I out, Rf ti, .none])) x.lc (.list (vs ++ [Rf t]))) := by
  as_aux_lemma =>
   intro c H G x k out kind ti vs is h1 h2 h3 h4 hz
   refine FN.defD G (f := 127) (T := 120) (by rfl) (by rfl) (by rfl) (by rfl) (names := ["self", "out", "kind", "ins", "param"]) (dflt := []) (by rfl) (len5 fun _ _ _ _ _ => ⟨_, by rfl, by rfl⟩) (by decide) (by decide) fun A L hA => ?_
   refine EX.cons (EX.expr (EV.append (EV.attr G (EV.name (by rfl) ⟨_, _, _, _, _, rfl, clsN, h1, h2, by rfl, by rfl, rfl, ?_⟩)))) 
   refine ⟨_, _, rfl, h3, EV.tup (EVs.cons (EV.name (by rfl) (EVs.cons (EV.name (by rfl) (EVs.cons (EV.tupleOf G (by rfl) (EV.name (by rfl) ⟨_, _, rfl, h4, EVs.cons (EV.name (by rfl) (EVs.nil ⟨by simp, fun a ha => ?_⟩))⟩)))))))⟩
   have n1 : x.lc ≠ a := by rintro rfl; rw [h3] at ha; cases ha
   refine ⟨_, by rw [upd_ne _ _ n1]; exact h3, hz, (fun b e => nomatch e), EX.nil ⟨rfl, a, ha, rfl⟩⟩

 have add_cell_raw : ∀ {c : Cx} {H : AH} (G : Gl c ((Mine.main.heap_1_39 c.w.params))) {x : Ad} {k : Int} {kind : Str} {ti : Addr} {vs is : List Value} (h1 : H x.n = some (.inst 144 x.dn)) (h2 : H x.dn = some (nsN x k)) (h3 : H x.lc = some (.list vs)) (h4 : H ti = some (.tup is)) (hz : vs.length ≤ 1000000), FN c 3 (.ref 119) [Rf x.n, S kind, Rf ti] H (fun r H' => r = I k ∧ ∃ t, upd H x.dn (nsN x (k + 1)) t = none ∧ H' = upd (upd (upd H x.dn (nsN x (k + 1))) t (.tup [S kind, I k, Rf ti, .none])) x.lc (.list (vs ++ [Rf t]))) := by
  as_aux_lemma =>
   intro c H G x k kind ti vs is h1 h2 h3 h4 hz
   have n1 : x.n ≠ x.dn := by intro e; rw [e, h2] at h1; cases h1
   have n2 : x.lc ≠ x.dn := by intro e; rw [e, h2] at h3; cases h3
   have n3 : ti ≠ x.dn := by intro e; rw [e, h2] at h4; cases h4
   refine FN.defD G (f := 119) (T := 112) (by rfl) (by rfl) (by rfl) (by rfl) (names := ["self", "kind", "ins", "param"]) (dflt := [.none]) (by rfl) (len3 fun _ _ _ => ⟨_, by rfl, by rfl⟩) (by decide) (by decide) fun A L hA => ?_
   refine EX.cons (EX.set (EV.meth0 G (EV.name (by rfl) ⟨_, _, _, _, _, 2, rfl, clsN, h1, h2, by rfl, by rfl, by rfl, by rfl, hA, ((new_net_ok G h1 h2).le (by decide)).mono fun r H' ⟨e1, e2⟩ => ?_⟩)))
   subst e1 e2
   refine EX.cons (EX.expr (EV.meth G (EV.name (by rfl) ⟨_, _, _, _, _, 2, rfl, clsN, by rw [upd_ne _ _ n1]; exact h1, upd_self .., by rfl, by rfl, by rfl, by rfl, hA, EVs.cons (EV.name (by rfl) (EVs.cons (EV.name (by rfl) (EVs.cons (EV.name (by rfl) (EVs.cons (EV.name (by rfl) (EVs.nil ?_))))))))⟩)))
   refine ((drive_ok (x := x) G (by rw [upd_ne _ _ n1]; exact h1) (upd_self ..) (by rw [upd_ne _ _ n2]; exact h3) (by rw [upd_ne _ _ n3]; exact h4) hz).le (by decide)).mono fun r H' ⟨e1, t, ht, e2⟩ => ?_
   subst e1 e2
   exact ⟨(fun b e => nomatch e), EX.cons (EX.ret (EV.name (by rfl) ⟨rfl, t, ht, rfl⟩))⟩

 have opp_ok : ∀ {c : Cx} {H : AH} {x : Ad} {k : Int} {bv : BV} (G : Gl c ((Mine.main.heap_1_39 c.w.params))) (h : ST x k bv H) {a b : Int} (hb : 0 ≤ b), FN c 1 (.ref 176) [Rf x.g, I a, I b] H (fun r H' => H' = H ∧ ∃ t, r = .bool t ∧ (t = true → ∀ i, bv b i = !bv a i)) := by
  as_aux_lemma =>
   intro c H x k bv G h a b hb
   obtain ⟨os, h8, h9, h10⟩ := h.hop
   refine FN.def G (f := 176) (by rfl) (by rfl) (names := ["self", "first", "second"]) (by rfl) (len3 fun _ _ _ => by rfl) (fun L => List.all_eq_true.mp (by rfl)) fun A L hA => ?_
   cases hv : valueAt os a with
   | none =>
     refine EX.cons (EX.ret (EV.cmp (EV.dictGet (EV.attr G (EV.name (by rfl) ⟨_, _, _, _, _, rfl, clsG, h.hg, h.hdg, by rfl, by rfl, rfl, ⟨_, _, rfl, h8, EV.name (by rfl) (EV.neg (EV.int ⟨_, rfl, _, rfl, h8, ?_⟩))⟩⟩)))))
     rw [hv]
     refine EV.name (by rfl) ⟨_, CO.eq, rfl, _, rfl, fun e => ?_⟩
     have := of_decide_eq_true e; (exact om63 hb this)
   | some v =>
     obtain ⟨o, e1, e2, e3, e4, e5, e6⟩ := h10 _ (valueAt_mem hv)
     have e1 : v = I o := e1
     subst e1
     refine EX.cons (EX.ret (EV.cmp (EV.dictGet (EV.attr G (EV.name (by rfl) ⟨_, _, _, _, _, rfl, clsG, h.hg, h.hdg, by rfl, by rfl, rfl, ⟨_, _, rfl, h8, EV.name (by rfl) (EV.neg (EV.int ⟨_, rfl, _, rfl, h8, ?_⟩))⟩⟩)))))
     rw [hv]
     refine EV.name (by rfl) ⟨_, CO.eq, rfl, _, rfl, fun e i => ?_⟩
     have := of_decide_eq_true e
     rw [← this]; exact e6 i

 have add_cell_ok : ∀ {c : Cx} {H : AH} {x : Ad} {k : Int} {bv : BV} (G : Gl c ((Mine.main.heap_1_39 c.w.params))) (h : ST x k bv H) {kind : Str} {ins : List Int} {ti : Addr} (hti : H ti = some (.tup (ins.map I))) (hk : kindOK kind ins.length) (hin : ∀ a ∈ ins, 0 ≤ a ∧ a < k) (hz : k ≤ 400000), FN c 3 (.ref 119) [Rf x.n, S kind, Rf ti] H (fun r H' => r = I k ∧ ∃ bv', ST x (k + 1) bv' H' ∧ (∀ a r, a < k → bv' a r = bv a r) ∧ (∀ r, bv' k r = valT bv kind ins r) ∧ Fr x H H' ∧ H' x.dm = H x.dm ∧ H' x.dop = H x.dop) := by
  as_aux_lemma =>
   intro c H x k bv G h kind ins ti hti hk hin hz
   obtain ⟨cs, h1, h2, h3⟩ := h.hlc
   refine (add_cell_raw G h.hn h.hdn h1 hti (by have := h.k2; simp; (exact om64 hz h2 this))).mono fun r H' ⟨e1, t, ht, e2⟩ => ⟨e1, h.addCell h1 hti hk hin ht e2⟩

 have pair_ok : ∀ {c : Cx} {H : AH} {x : Ad} {k : Int} {bv : BV} (G : Gl c ((Mine.main.heap_1_39 c.w.params))) (h : ST x k bv H) {kind : Str} {a b : Int} (hk : kindOK kind 2) (ha : 0 ≤ a ∧ a < k) (hb : 0 ≤ b ∧ b < k) (hz : k ≤ 400000), FN c 4 (.ref 169) [Rf x.g, S kind, I a, I b] H (GP x k bv H 1 fun i => valT bv kind [if b < a then b else a, if b > a then b else a] i) := by
  as_aux_lemma =>
   intro c H x k bv G h kind a b hk ha hb hz
   generalize hlo : (if b < a then b else a) = lo
   generalize hhi : (if b > a then b else a) = hi
   have rlo : 0 ≤ lo ∧ lo < k := by rw [← hlo]; split <;> assumption
   have rhi : 0 ≤ hi ∧ hi < k := by rw [← hhi]; split <;> assumption
   refine FN.def G (f := 169) (by rfl) (by rfl) (names := ["self", "kind", "first", "second"]) (by rfl) (len4 fun _ _ _ _ => by rfl) (fun L => List.all_eq_true.mp (by rfl)) fun A L hA => ?_
   refine EX.cons (EX.set (EV.min2 G (by rfl) hA.1 (EV.name (by rfl) (EV.name (by rfl) ⟨_, _, rfl, rfl, ?_⟩))))
   refine EX.cons (EX.set (EV.max2 G (by rfl) hA.1 (EV.name (by rfl) (EV.name (by rfl) ⟨_, _, rfl, rfl, ?_⟩))))
   rw [hlo, hhi]
   refine EX.cons (EX.set (EV.tup (EVs.cons (EV.name (by rfl) (EVs.cons (EV.name (by rfl) (EVs.cons (EV.name (by rfl) (EVs.nil ⟨by simp, fun t ht => ?_⟩)))))))))
   have s1 := h.fresh (o := .tup [S kind, I lo, I hi]) ht
   have f1 : Fr x H (upd H t (.tup [S kind, I lo, I hi])) := Fr.new ht
   have ht1 : upd H t (.tup [S kind, I lo, I hi]) t = some (.tup ([TK.s kind, .i lo, .i hi].map TK.val)) := upd_self ..
   generalize upd H t (.tup [S kind, I lo, I hi]) = H1 at *
   obtain ⟨ms, h4, h5, h6, h7⟩ := s1.hdm
   refine EX.cons (EX.ite (IT.cmp (EV.name (by rfl) (EV.attr G (EV.name (by rfl) ⟨_, _, _, _, _, rfl, clsG, s1.hg, s1.hdg, by rfl, by rfl, rfl, _, CO.notInT hA h4 h5 ht1, ite_intro (fun hn => ?_) (fun hn => ?_)⟩)))))
   · have hno : atKey ms [TK.s kind, .i lo, .i hi] = none := by
       cases q : atKey ms [TK.s kind, .i lo, .i hi] with
       | none => rfl
       | some p => rw [q] at hn; cases hn
     refine EX.cons (EX.setitemT hA (EV.meth G (EV.attr G (EV.name (by rfl) ⟨_, _, _, _, _, rfl, clsG, s1.hg, s1.hdg, by rfl, by rfl, rfl, _, _, _, _, _, 3, rfl, clsN, s1.hn, s1.hdn, by rfl, by rfl, by rfl, by rfl, hA,
       EVs.cons <| EV.name (by rfl) <| EVs.cons <| EV.tup <| EVs.cons <| EV.name (by rfl) <| EVs.cons <| EV.name (by rfl) <| EVs.nil ⟨by simp, fun t2 ht2 => EVs.nil ?_⟩⟩))))
     have s2 := s1.fresh (o := .tup [I lo, I hi]) ht2
     have f2 : Fr x H1 (upd H1 t2 (.tup [I lo, I hi])) := Fr.new ht2
     have ht2' : upd H1 t2 (.tup [I lo, I hi]) t2 = some (.tup ([lo, hi].map I)) := upd_self ..
     have em2 : upd H1 t2 (.tup [I lo, I hi]) x.dm = H1 x.dm := upd_ne _ _ (by rintro rfl; rw [h4] at ht2; cases ht2)
     generalize upd H1 t2 (.tup [I lo, I hi]) = H2 at *
     refine (add_cell_ok G s2 ht2' hk (by intro a ha; simp at ha; rcases ha with rfl | rfl <;> assumption) hz).mono fun r H3 q9 => ?_
     obtain ⟨e1, bv3, s3, o3, n3, f3, em3, eo3⟩ := q9
     subst e1
     have h43 : H3 x.dm = some (.tdict ms) := by rw [em3, em2]; exact h4
     have ht3 := s2.tup f3 (s1.tup f2 ht1)
     have h53 : keyOK H3 ms := fun p hp => s2.tup f3 (s1.tup f2 (h5 p hp))
     refine EV.attr G (EV.name (by rfl) ⟨_, _, _, _, _, rfl, clsG, s3.hg, s3.hdg, by rfl, by rfl, rfl, EV.name (by rfl) ⟨_, _, _, _, rfl, rfl, h43, h53, ht3, by (exact om65 ha hz h6), ?_⟩⟩)
     rw [storedH_new hno]
     have ok3 : ∀ p ∈ ms, madeOK bv3 (k + 1) p := fun p hp => by
       obtain ⟨kd, l, o, a1, a2, a3, a4, a5, a6⟩ := h7 p hp
       exact ⟨kd, l, o, a1, a2, a3, by (exact om66 a4), fun a ha => by have := a5 a ha; (exact om67 this), fun r => by rw [o3 _ r a4, a6 r]; exact (valT_congr fun a ha => o3 a r (a5 a ha).2).symm⟩
     have s4 := s3.setMade (ms := ms ++ [([TK.s kind, .i lo, .i hi], t, I k)]) (fun p hp => by
       rcases List.mem_append.mp hp with hp | hp
       · exact h53 p hp
       · simp at hp; subst hp; exact ht3) (by simp; omega) (fun p hp => by
       rcases List.mem_append.mp hp with hp | hp
       · exact ok3 p hp
       · simp at hp; subst hp
         exact ⟨kind, [lo, hi], k, rfl, rfl, by have := h.kpos; (exact om68 hz this), by (exact om69), fun a ha => by simp at ha; rcases ha with rfl | rfl <;> (first | exact om67 rlo | exact om67 rhi), fun r => by
           rw [n3 r]; exact valT_congr fun a ha => (o3 a r (by simp at ha; rcases ha with rfl | rfl <;> (first | exact om70 rlo | exact om70 rhi))).symm⟩)
     have f4 : Fr x H3 (upd H3 x.dm (.tdict (ms ++ [([TK.s kind, .i lo, .i hi], t, I k)]))) := fun b o hb _ _ n _ => by rw [upd_ne _ _ n]; exact hb
     have ht4 := s3.tup f4 ht3
     have h54 : keyOK (upd H3 x.dm (.tdict (ms ++ [([TK.s kind, .i lo, .i hi], t, I k)]))) (ms ++ [([TK.s kind, .i lo, .i hi], t, I k)]) := by
       obtain ⟨ms', q1, q2, _⟩ := s4.hdm
       rw [upd_self] at q1; cases q1; exact q2
     refine EX.nil (EX.cons (EX.ret (EV.itemT hA (EV.attr G (EV.name (by rfl) ⟨_, _, _, _, _, rfl, clsG, s4.hg, s4.hdg, by rfl, by rfl, rfl, EV.name (by rfl) ⟨_, _, _, _, (t, I k), rfl, rfl, upd_self .., h54, ht4, ?_, ?_⟩⟩)))))
     · unfold atKey
       rw [List.find?_append]
       unfold atKey at hno
       rw [show List.find? (fun x => decide (x.1 = [TK.s kind, .i lo, .i hi])) ms = none from by simpa using hno]
       simp
     · exact ⟨k, k + 1, bv3, rfl, ⟨s4, by (exact om71), by (exact om72), o3, (((f1.trans f2).trans f3).trans f4)⟩, by have := h.kpos; (exact om68 hz this), by (exact om69), n3⟩
   · cases q : atKey ms [TK.s kind, .i lo, .i hi] with
     | none => rw [q] at hn; cases hn
     | some p =>
       obtain ⟨kd, l, o, a1, a2, a3, a4, a5, a6⟩ := h7 _ (atKey_mem q)
       refine EX.nil (EX.cons (EX.ret (EV.itemT hA (EV.attr G (EV.name (by rfl) ⟨_, _, _, _, _, rfl, clsG, s1.hg, s1.hdg, by rfl, by rfl, rfl, EV.name (by rfl) ⟨_, _, _, _, p, rfl, rfl, h4, h5, ht1, q, ?_⟩⟩)))))
       have e1 : kind = kd ∧ [TK.i lo, .i hi] = l.map .i := by simpa using a1
       obtain ⟨rfl, e2⟩ := e1
       have e3 : l = [lo, hi] := by
         match l, e2 with
         | [u, v], e2 => simp at e2; rw [e2.1, e2.2]
       subst e3
       exact ⟨o, k, bv, a2, ⟨s1, Int.le_refl _, by (exact om71), fun _ _ _ => rfl, f1⟩, a3, a4, a6⟩

 have inv_ok : ∀ {c : Cx} {H : AH} {x : Ad} {k : Int} {bv : BV} (G : Gl c ((Mine.main.heap_1_39 c.w.params))) (h : ST x k bv H) {a : Int} (ha : 0 ≤ a ∧ a < k) (hz : k ≤ 400000), FN c 4 (.ref 183) [Rf x.g, I a] H (GP x k bv H 1 fun i => !bv a i) := by
  as_aux_lemma =>
   intro c H x k bv G h a ha hz
   have hk2 := h.kpos
   refine FN.def G (f := 183) (by rfl) (by rfl) (names := ["self", "a"]) (by rfl) (len2 fun _ _ => by rfl) (fun L => List.all_eq_true.mp (by rfl)) fun A L hA => ?_
   refine EX.cons <| EX.ite <| IT.or <| IT.cmp <| EV.name (by rfl) <| EV.int ⟨_, CO.eq, ite_intro (fun e => if_tt ?_) (fun e0 => IT.or <| IT.cmp <| EV.name (by rfl) <| EV.int ⟨_, CO.eq, ite_intro (fun e => if_tt ?_) (fun e1 => IT.or_nil <| if_ff <| EX.nil ?_)⟩)⟩
   · have := of_decide_eq_true e; subst this
     exact EX.cons <| EX.ret <| EV.bin <| EV.int <| EV.name (by rfl) ⟨_, BO.sub, GP.here h (by decide) (by decide) (by (exact om73 hz hk2)) fun i => by rw [show (1 : Int) - 0 = 1 from rfl, h.b1, h.b0]; rfl⟩
   · have := of_decide_eq_true e; subst this
     exact EX.cons <| EX.ret <| EV.bin <| EV.int <| EV.name (by rfl) ⟨_, BO.sub, GP.here h (by decide) (by decide) (by (exact om74 hz hk2)) fun i => by rw [show (1 : Int) - 1 = 0 from rfl, h.b1, h.b0]; rfl⟩
   · obtain ⟨os, h8, h9, h10⟩ := h.hop
     refine EX.cons <| EX.ite <| IT.cmp <| EV.name (by rfl) <| EV.attr G <| EV.name (by rfl) ⟨_, _, _, _, _, rfl, clsG, h.hg, h.hdg, by rfl, by rfl, rfl, _, CO.notInD h8, ite_intro (fun hn => ?_) (fun hn => ?_)⟩
     · have hno : valueAt os a = none := by
         cases q : valueAt os a with
         | none => rfl
         | some p => rw [q] at hn; cases hn
       refine EX.cons <| EX.set <| EV.meth G <| EV.attr G <| EV.name (by rfl) ⟨_, _, _, _, _, rfl, clsG, h.hg, h.hdg, by rfl, by rfl, rfl, _, _, _, _, _, 3, rfl, clsN, h.hn, h.hdn, by rfl, by rfl, by rfl, by rfl, hA,
         EVs.cons <| EV.str <| EVs.cons <| EV.tup <| EVs.cons <| EV.name (by rfl) <| EVs.nil ⟨by simp, fun t2 ht2 => EVs.nil ?_⟩⟩
       have s2 := h.fresh (o := .tup [I a]) ht2
       have f2 : Fr x H (upd H t2 (.tup [I a])) := Fr.new ht2
       have ht2' : upd H t2 (.tup [I a]) t2 = some (.tup ([a].map I)) := upd_self ..
       have em2 : upd H t2 (.tup [I a]) x.dop = H x.dop := upd_ne _ _ (by rintro rfl; rw [h8] at ht2; cases ht2)
       generalize upd H t2 (.tup [I a]) = H2 at *
       refine (add_cell_ok G s2 ht2' (.inl ⟨rfl, rfl⟩) (by intro b hb; simp at hb; subst hb; exact ha) hz).mono fun r H3 q9 => ?_
       obtain ⟨e1, bv3, s3, o3, n3, f3, em3, eo3⟩ := q9
       subst e1
       have h83 : H3 x.dop = some (.idict os) := by rw [eo3, em2]; exact h8
       have hn3 : ∀ r, bv3 k r = !bv a r := fun r => by rw [n3 r]; exact valT_not
       refine EX.cons <| EX.setitemD <| EV.name (by rfl) <| EV.attr G <| EV.name (by rfl) ⟨_, _, _, _, _, rfl, clsG, s3.hg, s3.hdg, by rfl, by rfl, rfl, EV.name (by rfl) ⟨_, _, _, rfl, rfl, h83, by (exact om75 hz hk2 h9), ?_⟩⟩
       rw [stored_new hno]
       have ok3 : ∀ p ∈ os, oppOK bv3 (k + 1) p := fun p hp => by
         obtain ⟨o, a1, a2, a3, a4, a5, a6⟩ := h10 p hp
         exact ⟨o, a1, a2, by (exact om66 a3), a4, by (exact om66 a5), fun r => by rw [o3 _ r a3, o3 _ r a5, a6 r]⟩
       have ok4 : oppOK bv3 (k + 1) (a, I k) := ⟨k, rfl, by (exact om68 hz hk2), by (exact om69), ha.1, by show a < k + 1; (exact om76 ha), fun r => by show bv3 k r = !bv3 a r; rw [hn3, o3 a r ha.2]⟩
       have ok5 : oppOK bv3 (k + 1) (k, I a) := ⟨a, rfl, by (exact om77 ha), by (exact om76 ha), by show 0 ≤ k; (exact om68 hz hk2), by show k < k + 1; (exact om69), fun r => by show bv3 a r = !bv3 k r; rw [hn3, o3 a r ha.2]; simp⟩
       have s4 := s3.setOpp (os := os ++ [(a, I k)]) (by simp; (exact om78 h9)) (fun p hp => by
         rcases List.mem_append.mp hp with hp | hp
         · exact ok3 p hp
         · simp at hp; subst hp; exact ok4)
       have f4 : Fr x H3 (upd H3 x.dop (.idict (os ++ [(a, I k)]))) := fun b o hb _ _ _ n => by rw [upd_ne _ _ n]; exact hb
       have e4 : upd H3 x.dop (.idict (os ++ [(a, I k)])) x.dop = some (.idict (os ++ [(a, I k)])) := upd_self ..
       generalize upd H3 x.dop (.idict (os ++ [(a, I k)])) = H4 at *
       refine EX.cons <| EX.setitemD <| EV.name (by rfl) <| EV.attr G <| EV.name (by rfl) ⟨_, _, _, _, _, rfl, clsG, s4.hg, s4.hdg, by rfl, by rfl, rfl, EV.name (by rfl) ⟨_, _, _, rfl, rfl, e4, by simp; (exact om79 hz hk2 h9), ?_⟩⟩
       rw [stored_new (valueAt_none fun p hp => by
         rcases List.mem_append.mp hp with hp | hp
         · obtain ⟨o, a1, a2, a3, a4, a5, a6⟩ := h10 p hp; (exact om80 a5)
         · simp at hp; subst hp; show a ≠ k; (exact om81 ha))]
       have s5 := s4.setOpp (os := os ++ [(a, I k)] ++ [(k, I a)]) (by simp; (exact om82 h9)) (fun p hp => by
         rcases List.mem_append.mp hp with hp | hp
         · rcases List.mem_append.mp hp with hp | hp
           · exact ok3 p hp
           · simp at hp; subst hp; exact ok4
         · simp at hp; subst hp; exact ok5)
       have f5 : Fr x H4 (upd H4 x.dop (.idict (os ++ [(a, I k)] ++ [(k, I a)]))) := fun b o hb _ _ _ n => by rw [upd_ne _ _ n]; exact hb
       refine EX.nil <| EX.cons <| EX.ret <| EV.itemD <| EV.attr G <| EV.name (by rfl) ⟨_, _, _, _, _, rfl, clsG, s5.hg, s5.hdg, by rfl, by rfl, rfl, EV.name (by rfl) ⟨_, _, _, I k, rfl, rfl, upd_self .., ?_, ?_⟩⟩
       · rw [List.append_assoc, valueAt_app hno]; exact valueAt_one
       · exact ⟨k, k + 1, bv3, rfl, ⟨s5, by (exact om71), by (exact om72), o3, (((f2.trans f3).trans f4).trans f5)⟩, by (exact om68 hz hk2), by (exact om69), hn3⟩
     · cases q : valueAt os a with
       | none => rw [q] at hn; cases hn
       | some p =>
         obtain ⟨o, a1, a2, a3, a4, a5, a6⟩ := h10 _ (valueAt_mem q)
         have a1 : p = I o := a1
         subst a1
         exact EX.nil <| EX.cons <| EX.ret <| EV.itemD <| EV.attr G <| EV.name (by rfl) ⟨_, _, _, _, _, rfl, clsG, h.hg, h.hdg, by rfl, by rfl, rfl, EV.name (by rfl) ⟨_, _, _, _, rfl, rfl, h8, q, GP.here h (by decide) a2 a3 a6⟩⟩

 have both_ok : ∀ {c : Cx} {H : AH} {x : Ad} {k : Int} {bv : BV} (G : Gl c ((Mine.main.heap_1_39 c.w.params))) (h : ST x k bv H) {a b : Int} (ha : 0 ≤ a ∧ a < k) (hb : 0 ≤ b ∧ b < k) (hz : k ≤ 400000), FN c 5 (.ref 190) [Rf x.g, I a, I b] H (GP x k bv H 1 fun i => bv a i && bv b i) := by
  as_aux_lemma =>
   intro c H x k bv G h a b ha hb hz
   have hk2 := h.kpos
   refine FN.def G (f := 190) (by rfl) (by rfl) (names := ["self", "a", "b"]) (by rfl) (len3 fun _ _ _ => by rfl) (fun L => List.all_eq_true.mp (by rfl)) fun A L hA => ?_
   have ret0 : (∀ i, (bv a i && bv b i) = false) → GP x k bv H 1 (fun i => bv a i && bv b i) (I 0) H := fun e => GP.here h (by decide) (by decide) (by (exact om85 hz hk2)) fun i => by rw [h.b0, e]
   refine EX.ifret <| IT.or <| IT.cmp <| EV.name (by rfl) <| EV.int ⟨_, CO.eq, ite_intro (fun e => if_tt ?_) (fun e0 => IT.or <| IT.cmp <| EV.name (by rfl) <| EV.int ⟨_, CO.eq, ite_intro (fun e => if_tt ?_) (fun e1 => IT.or <| IT.val <| EV.meth G <| EV.name (by rfl)
     ⟨_, _, _, _, _, 4, rfl, clsG, h.hg, h.hdg, by rfl, by rfl, by rfl, by rfl, hA, EVs.cons <| EV.name (by rfl) <| EVs.cons <| EV.name (by rfl) <| EVs.nil <| ((opp_ok (a := a) (b := b) G h hb.1).le (by decide)).mono fun r H' q => ?_⟩)⟩)⟩
   · have := of_decide_eq_true e; subst this
     exact EV.int <| ret0 fun i => by rw [h.b0]; rfl
   · have := of_decide_eq_true e; subst this
     exact EV.int <| ret0 fun i => by rw [h.b0]; simp
   · obtain ⟨e1, t, e2, e3⟩ := q
     subst e1 e2
     refine ⟨t, rfl, ite_intro (fun e => if_tt ?_) (fun e => IT.or_nil <| if_ff ?_)⟩
     · exact EV.int <| ret0 fun i => by rw [e3 e i]; simp
     refine EX.ifret <| IT.or <| IT.cmp <| EV.name (by rfl) <| EV.int ⟨_, CO.eq, ite_intro (fun e => if_tt ?_) (fun e0 => IT.or <| IT.cmp <| EV.name (by rfl) <| EV.name (by rfl) ⟨_, CO.eq, ite_intro (fun e => if_tt ?_) (fun e1 => IT.or_nil <| if_ff ?_)⟩)⟩
     · have := of_decide_eq_true e; subst this
       exact EV.name (by rfl) <| GP.here h (by decide) hb.1 hb.2 fun i => by rw [h.b1]; simp
     · have := of_decide_eq_true e; subst this
       exact EV.name (by rfl) <| GP.here h (by decide) hb.1 hb.2 fun i => by simp
     refine EX.ifret <| IT.cmp <| EV.name (by rfl) <| EV.int ⟨_, CO.eq, ite_intro (fun e => ?_) (fun e1 => ?_)⟩
     · have := of_decide_eq_true e; subst this
       exact EV.name (by rfl) <| GP.here h (by decide) ha.1 ha.2 fun i => by rw [h.b1]; simp
     exact EX.cons <| EX.ret <| EV.meth G <| EV.name (by rfl) ⟨_, _, _, _, _, 4, rfl, clsG, h.hg, h.hdg, by rfl, by rfl, by rfl, by rfl, hA, EVs.cons <| EV.str <| EVs.cons <| EV.name (by rfl) <| EVs.cons <| EV.name (by rfl) <| EVs.nil <|
       (pair_ok G h (.inr (.inl ⟨rfl, rfl⟩)) ha hb hz).mono fun r H' q => q.congr fun i => mm_and⟩

 have either_ok : ∀ {c : Cx} {H : AH} {x : Ad} {k : Int} {bv : BV} (G : Gl c ((Mine.main.heap_1_39 c.w.params))) (h : ST x k bv H) {a b : Int} (ha : 0 ≤ a ∧ a < k) (hb : 0 ≤ b ∧ b < k) (hz : k ≤ 400000), FN c 5 (.ref 197) [Rf x.g, I a, I b] H (GP x k bv H 1 fun i => bv a i || bv b i) := by
  as_aux_lemma =>
   intro c H x k bv G h a b ha hb hz
   have hk2 := h.kpos
   refine FN.def G (f := 197) (by rfl) (by rfl) (names := ["self", "a", "b"]) (by rfl) (len3 fun _ _ _ => by rfl) (fun L => List.all_eq_true.mp (by rfl)) fun A L hA => ?_
   have ret1 : (∀ i, (bv a i || bv b i) = true) → GP x k bv H 1 (fun i => bv a i || bv b i) (I 1) H := fun e => GP.here h (by decide) (by decide) (by (exact om86 hz hk2)) fun i => by rw [h.b1, e]
   refine EX.ifret <| IT.or <| IT.cmp <| EV.name (by rfl) <| EV.int ⟨_, CO.eq, ite_intro (fun e => if_tt ?_) (fun e0 => IT.or <| IT.cmp <| EV.name (by rfl) <| EV.int ⟨_, CO.eq, ite_intro (fun e => if_tt ?_) (fun e1 => IT.or <| IT.val <| EV.meth G <| EV.name (by rfl)
     ⟨_, _, _, _, _, 4, rfl, clsG, h.hg, h.hdg, by rfl, by rfl, by rfl, by rfl, hA, EVs.cons <| EV.name (by rfl) <| EVs.cons <| EV.name (by rfl) <| EVs.nil <| ((opp_ok (a := a) (b := b) G h hb.1).le (by decide)).mono fun r H' q => ?_⟩)⟩)⟩
   · have := of_decide_eq_true e; subst this
     exact EV.int <| ret1 fun i => by rw [h.b1]; rfl
   · have := of_decide_eq_true e; subst this
     exact EV.int <| ret1 fun i => by rw [h.b1]; simp
   · obtain ⟨e1, t, e2, e3⟩ := q
     subst e1 e2
     refine ⟨t, rfl, ite_intro (fun e => if_tt ?_) (fun e => IT.or_nil <| if_ff ?_)⟩
     · exact EV.int <| ret1 fun i => by rw [e3 e i]; simp
     refine EX.ifret <| IT.or <| IT.cmp <| EV.name (by rfl) <| EV.int ⟨_, CO.eq, ite_intro (fun e => if_tt ?_) (fun e0 => IT.or <| IT.cmp <| EV.name (by rfl) <| EV.name (by rfl) ⟨_, CO.eq, ite_intro (fun e => if_tt ?_) (fun e1 => IT.or_nil <| if_ff ?_)⟩)⟩
     · have := of_decide_eq_true e; subst this
       exact EV.name (by rfl) <| GP.here h (by decide) hb.1 hb.2 fun i => by rw [h.b0]; simp
     · have := of_decide_eq_true e; subst this
       exact EV.name (by rfl) <| GP.here h (by decide) hb.1 hb.2 fun i => by simp
     refine EX.ifret <| IT.cmp <| EV.name (by rfl) <| EV.int ⟨_, CO.eq, ite_intro (fun e => ?_) (fun e1 => ?_)⟩
     · have := of_decide_eq_true e; subst this
       exact EV.name (by rfl) <| GP.here h (by decide) ha.1 ha.2 fun i => by rw [h.b0]; simp
     exact EX.cons <| EX.ret <| EV.meth G <| EV.name (by rfl) ⟨_, _, _, _, _, 4, rfl, clsG, h.hg, h.hdg, by rfl, by rfl, by rfl, by rfl, hA, EVs.cons <| EV.str <| EVs.cons <| EV.name (by rfl) <| EVs.cons <| EV.name (by rfl) <| EVs.nil <|
       (pair_ok G h (.inr (.inr (.inl ⟨rfl, rfl⟩))) ha hb hz).mono fun r H' q => q.congr fun i => mm_or⟩

 have differ_ok : ∀ {c : Cx} {H : AH} {x : Ad} {k : Int} {bv : BV} (G : Gl c ((Mine.main.heap_1_39 c.w.params))) (h : ST x k bv H) {a b : Int} (ha : 0 ≤ a ∧ a < k) (hb : 0 ≤ b ∧ b < k) (hz : k ≤ 400000), FN c 5 (.ref 204) [Rf x.g, I a, I b] H (GP x k bv H 1 fun i => bv a i != bv b i) := by
  as_aux_lemma =>
   intro c H x k bv G h a b ha hb hz
   have hk2 := h.kpos
   refine FN.def G (f := 204) (by rfl) (by rfl) (names := ["self", "a", "b"]) (by rfl) (len3 fun _ _ _ => by rfl) (fun L => List.all_eq_true.mp (by rfl)) fun A L hA => ?_
   refine EX.ifret <| IT.cmp <| EV.name (by rfl) <| EV.name (by rfl) ⟨_, CO.eq, ite_intro (fun e => ?_) (fun e0 => ?_)⟩
   · have := of_decide_eq_true e; subst this
     exact EV.int <| GP.here h (by decide) (by decide) (by (exact om85 hz hk2)) fun i => by rw [h.b0]; simp
   refine EX.ifret <| IT.val <| EV.meth G <| EV.name (by rfl) ⟨_, _, _, _, _, 4, rfl, clsG, h.hg, h.hdg, by rfl, by rfl, by rfl, by rfl, hA, EVs.cons <| EV.name (by rfl) <| EVs.cons <| EV.name (by rfl) <| EVs.nil <| ((opp_ok (a := a) (b := b) G h hb.1).le (by decide)).mono fun r H' q => ?_⟩
   obtain ⟨e1, t, e2, e3⟩ := q
   have e1 := e1.symm; subst e1 e2
   refine ⟨t, rfl, ite_intro (fun e => ?_) (fun e => ?_)⟩
   · exact EV.int <| GP.here h (by decide) (by decide) (by (exact om86 hz hk2)) fun i => by rw [h.b1, e3 e i]; cases bv a i <;> rfl
   refine EX.ifret <| IT.or <| IT.cmp <| EV.name (by rfl) <| EV.int ⟨_, CO.eq, ite_intro (fun e => if_tt ?_) (fun e1 => IT.or <| IT.cmp <| EV.name (by rfl) <| EV.int ⟨_, CO.eq, ite_intro (fun e => if_tt ?_) (fun e2 => IT.or_nil <| if_ff ?_)⟩)⟩
   · have := of_decide_eq_true e; subst this
     exact EV.ifexp <| IT.cmp <| EV.name (by rfl) <| EV.int ⟨_, CO.eq, ite_intro (fun e => absurd e (by decide)) (fun e => EV.name (by rfl) <| GP.here h (by decide) hb.1 hb.2 fun i => by rw [h.b0]; cases bv b i <;> rfl)⟩
   · have := of_decide_eq_true e; subst this
     exact EV.ifexp <| IT.cmp <| EV.name (by rfl) <| EV.int ⟨_, CO.eq, ite_intro (fun e => EV.meth G <| EV.name (by rfl) ⟨_, _, _, _, _, 4, rfl, clsG, h.hg, h.hdg, by rfl, by rfl, by rfl, by rfl, hA, EVs.cons <| EV.name (by rfl) <| EVs.nil <|
       (inv_ok G h hb hz).mono fun r H' q => q.congr fun i => by rw [h.b1]; cases bv b i <;> rfl⟩) (fun e => absurd e (by decide))⟩
   refine EX.ifret <| IT.or <| IT.cmp <| EV.name (by rfl) <| EV.int ⟨_, CO.eq, ite_intro (fun e => if_tt ?_) (fun e1 => IT.or <| IT.cmp <| EV.name (by rfl) <| EV.int ⟨_, CO.eq, ite_intro (fun e => if_tt ?_) (fun e2 => IT.or_nil <| if_ff ?_)⟩)⟩
   · have := of_decide_eq_true e; subst this
     exact EV.ifexp <| IT.cmp <| EV.name (by rfl) <| EV.int ⟨_, CO.eq, ite_intro (fun e => absurd e (by decide)) (fun e => EV.name (by rfl) <| GP.here h (by decide) ha.1 ha.2 fun i => by rw [h.b0]; cases bv a i <;> rfl)⟩
   · have := of_decide_eq_true e; subst this
     exact EV.ifexp <| IT.cmp <| EV.name (by rfl) <| EV.int ⟨_, CO.eq, ite_intro (fun e => EV.meth G <| EV.name (by rfl) ⟨_, _, _, _, _, 4, rfl, clsG, h.hg, h.hdg, by rfl, by rfl, by rfl, by rfl, hA, EVs.cons <| EV.name (by rfl) <| EVs.nil <|
       (inv_ok G h ha hz).mono fun r H' q => q.congr fun i => by rw [h.b1]; cases bv a i <;> rfl⟩) (fun e => absurd e (by decide))⟩
   exact EX.cons <| EX.ret <| EV.meth G <| EV.name (by rfl) ⟨_, _, _, _, _, 4, rfl, clsG, h.hg, h.hdg, by rfl, by rfl, by rfl, by rfl, hA, EVs.cons <| EV.str <| EVs.cons <| EV.name (by rfl) <| EVs.cons <| EV.name (by rfl) <| EVs.nil <|
       (pair_ok G h (.inr (.inr (.inr (.inl ⟨rfl, rfl⟩)))) ha hb hz).mono fun r H' q => q.congr fun i => mm_xor⟩

 have mux_ok : ∀ {c : Cx} {H : AH} {x : Ad} {k : Int} {bv : BV} (G : Gl c ((Mine.main.heap_1_39 c.w.params))) (h : ST x k bv H) {s a b : Int} (hs : 0 ≤ s ∧ s < k) (ha : 0 ≤ a ∧ a < k) (hb : 0 ≤ b ∧ b < k) (hz : k ≤ 300000), FN c 6 (.ref 218) [Rf x.g, I s, I a, I b] H (GP x k bv H 2 fun i => if bv s i then bv b i else bv a i) := by
  as_aux_lemma =>
   intro c H x k bv G h s a b hs ha hb hz
   have hk2 := h.kpos
   have hz4 : k ≤ 400000 := by (exact om87 hz hk2)
   refine FN.def G (f := 218) (by rfl) (by rfl) (names := ["self", "s", "a", "b"]) (by rfl) (len4 fun _ _ _ _ => by rfl) (fun L => List.all_eq_true.mp (by rfl)) fun A L hA => ?_
   refine EX.ifret <| IT.or <| IT.cmp <| EV.name (by rfl) <| EV.int ⟨_, CO.eq, ite_intro (fun e => if_tt ?_) (fun e1 => IT.or <| IT.cmp <| EV.name (by rfl) <| EV.name (by rfl) ⟨_, CO.eq, ite_intro (fun e => if_tt ?_) (fun e2 => IT.or_nil <| if_ff ?_)⟩)⟩
   · have := of_decide_eq_true e; subst this
     exact EV.name (by rfl) <| GP.here h (by decide) ha.1 ha.2 fun i => by rw [h.b0]; simp
   · have := of_decide_eq_true e; subst this
     exact EV.name (by rfl) <| GP.here h (by decide) ha.1 ha.2 fun i => by simp
   refine EX.ifret <| IT.cmp <| EV.name (by rfl) <| EV.int ⟨_, CO.eq, ite_intro (fun e => ?_) (fun e0 => ?_)⟩
   · have := of_decide_eq_true e; subst this
     exact EV.name (by rfl) <| GP.here h (by decide) hb.1 hb.2 fun i => by rw [h.b1]; simp
   refine EX.ifret <| IT.or <| IT.cmp <| EV.name (by rfl) <| EV.int ⟨_, CO.eq, ite_intro (fun e => if_tt ?_) (fun e1 => IT.or <| IT.cmp <| EV.name (by rfl) <| EV.name (by rfl) ⟨_, CO.eq, ite_intro (fun e => if_tt ?_) (fun e2 => IT.or_nil <| if_ff ?_)⟩)⟩
   · have := of_decide_eq_true e; subst this
     exact EV.meth G <| EV.name (by rfl) ⟨_, _, _, _, _, 5, rfl, clsG, h.hg, h.hdg, by rfl, by rfl, by rfl, by rfl, hA, EVs.cons <| EV.name (by rfl) <| EVs.cons <| EV.name (by rfl) <| EVs.nil <|
       (both_ok G h hs hb hz4).mono fun r H' q => (q.sp (by decide)).congr fun i => by rw [h.b0]; cases bv s i <;> simp⟩
   · have := of_decide_eq_true e; subst this
     exact EV.meth G <| EV.name (by rfl) ⟨_, _, _, _, _, 5, rfl, clsG, h.hg, h.hdg, by rfl, by rfl, by rfl, by rfl, hA, EVs.cons <| EV.name (by rfl) <| EVs.cons <| EV.name (by rfl) <| EVs.nil <|
       (both_ok G h hs hb hz4).mono fun r H' q => (q.sp (by decide)).congr fun i => by cases bv a i <;> simp⟩
   refine EX.ifret <| IT.or <| IT.cmp <| EV.name (by rfl) <| EV.int ⟨_, CO.eq, ite_intro (fun e => if_tt ?_) (fun e1 => IT.or <| IT.cmp <| EV.name (by rfl) <| EV.name (by rfl) ⟨_, CO.eq, ite_intro (fun e => if_tt ?_) (fun e2 => IT.or_nil <| if_ff ?_)⟩)⟩
   · have := of_decide_eq_true e; subst this
     exact EV.meth G <| EV.name (by rfl) ⟨_, _, _, _, _, 5, rfl, clsG, h.hg, h.hdg, by rfl, by rfl, by rfl, by rfl, hA, EVs.cons <| EV.name (by rfl) <| EVs.cons <| EV.name (by rfl) <| EVs.nil <|
       (either_ok G h hs ha hz4).mono fun r H' q => (q.sp (by decide)).congr fun i => by rw [h.b1]; cases bv s i <;> simp⟩
   · have := of_decide_eq_true e; subst this
     exact EV.meth G <| EV.name (by rfl) ⟨_, _, _, _, _, 5, rfl, clsG, h.hg, h.hdg, by rfl, by rfl, by rfl, by rfl, hA, EVs.cons <| EV.name (by rfl) <| EVs.cons <| EV.name (by rfl) <| EVs.nil <|
       (either_ok G h hb ha hz4).mono fun r H' q => (q.sp (by decide)).congr fun i => by cases bv b i <;> simp⟩
   refine EX.ifret <| IT.or <| IT.cmp <| EV.name (by rfl) <| EV.int ⟨_, CO.eq, ite_intro (fun e => if_tt ?_) (fun e1 => IT.or <| IT.val <| EV.meth G <| EV.name (by rfl)
     ⟨_, _, _, _, _, 5, rfl, clsG, h.hg, h.hdg, by rfl, by rfl, by rfl, by rfl, hA, EVs.cons <| EV.name (by rfl) <| EVs.cons <| EV.name (by rfl) <| EVs.nil <| ((opp_ok (a := a) (b := s) G h hs.1).le (by decide)).mono fun r H' q => ?_⟩)⟩
   · have := of_decide_eq_true e; subst this
     refine EV.meth G <| EV.name (by rfl) ⟨_, _, _, _, _, 5, rfl, clsG, h.hg, h.hdg, by rfl, by rfl, by rfl, by rfl, hA, EVs.cons <| EV.meth G <| EV.name (by rfl) ⟨_, _, _, _, _, 5, rfl, clsG, h.hg, h.hdg, by rfl, by rfl, by rfl, by rfl, hA, EVs.cons <| EV.name (by rfl) <| EVs.nil <|
       ((inv_ok G h hs hz4).le (by decide)).mono fun r1 H1 q1 => ?_⟩⟩
     obtain ⟨o, k1, bv1, rfl, s1, o1, o2, o3⟩ := q1
     refine EVs.cons <| EV.name (by rfl) <| EVs.nil <| (either_ok G s1.st ⟨o1, o2⟩ ⟨hb.1, by have := s1.le; (exact om88 hb this)⟩ (by have := s1.up; (exact om89 hz hk2 this))).mono fun r H' q => (q.after s1).congr fun i => ?_
     rw [o3]; (try dsimp only); rw [s1.old b i hb.2, h.b1]; cases bv s i <;> simp
   obtain ⟨e1, t, e2, e3⟩ := q
   have e1 := e1.symm; subst e1 e2
   refine ⟨t, rfl, ite_intro (fun e => if_tt ?_) (fun e => IT.or_nil <| if_ff ?_)⟩
   · refine EV.meth G <| EV.name (by rfl) ⟨_, _, _, _, _, 5, rfl, clsG, h.hg, h.hdg, by rfl, by rfl, by rfl, by rfl, hA, EVs.cons <| EV.meth G <| EV.name (by rfl) ⟨_, _, _, _, _, 5, rfl, clsG, h.hg, h.hdg, by rfl, by rfl, by rfl, by rfl, hA, EVs.cons <| EV.name (by rfl) <| EVs.nil <|
       ((inv_ok G h hs hz4).le (by decide)).mono fun r1 H1 q1 => ?_⟩⟩
     obtain ⟨o, k1, bv1, rfl, s1, o1, o2, o3⟩ := q1
     refine EVs.cons <| EV.name (by rfl) <| EVs.nil <| (either_ok G s1.st ⟨o1, o2⟩ ⟨hb.1, by have := s1.le; (exact om88 hb this)⟩ (by have := s1.up; (exact om89 hz hk2 this))).mono fun r H' q => (q.after s1).congr fun i => ?_
     rw [o3]; (try dsimp only); rw [s1.old b i hb.2, e3 e i]; cases bv a i <;> simp
   refine EX.ifret <| IT.or <| IT.cmp <| EV.name (by rfl) <| EV.int ⟨_, CO.eq, ite_intro (fun e => if_tt ?_) (fun e1 => IT.or <| IT.val <| EV.meth G <| EV.name (by rfl)
     ⟨_, _, _, _, _, 5, rfl, clsG, h.hg, h.hdg, by rfl, by rfl, by rfl, by rfl, hA, EVs.cons <| EV.name (by rfl) <| EVs.cons <| EV.name (by rfl) <| EVs.nil <| ((opp_ok (a := b) (b := s) G h hs.1).le (by decide)).mono fun r H' q => ?_⟩)⟩
   · have := of_decide_eq_true e; subst this
     refine EV.meth G <| EV.name (by rfl) ⟨_, _, _, _, _, 5, rfl, clsG, h.hg, h.hdg, by rfl, by rfl, by rfl, by rfl, hA, EVs.cons <| EV.meth G <| EV.name (by rfl) ⟨_, _, _, _, _, 5, rfl, clsG, h.hg, h.hdg, by rfl, by rfl, by rfl, by rfl, hA, EVs.cons <| EV.name (by rfl) <| EVs.nil <|
       ((inv_ok G h hs hz4).le (by decide)).mono fun r1 H1 q1 => ?_⟩⟩
     obtain ⟨o, k1, bv1, rfl, s1, o1, o2, o3⟩ := q1
     refine EVs.cons <| EV.name (by rfl) <| EVs.nil <| (both_ok G s1.st ⟨o1, o2⟩ ⟨ha.1, by have := s1.le; (exact om88 ha this)⟩ (by have := s1.up; (exact om89 hz hk2 this))).mono fun r H' q => (q.after s1).congr fun i => ?_
     rw [o3]; (try dsimp only); rw [s1.old a i ha.2, h.b0]; cases bv s i <;> simp
   obtain ⟨e1, t, e2, e3⟩ := q
   have e1 := e1.symm; subst e1 e2
   refine ⟨t, rfl, ite_intro (fun e => if_tt ?_) (fun e => IT.or_nil <| if_ff ?_)⟩
   · refine EV.meth G <| EV.name (by rfl) ⟨_, _, _, _, _, 5, rfl, clsG, h.hg, h.hdg, by rfl, by rfl, by rfl, by rfl, hA, EVs.cons <| EV.meth G <| EV.name (by rfl) ⟨_, _, _, _, _, 5, rfl, clsG, h.hg, h.hdg, by rfl, by rfl, by rfl, by rfl, hA, EVs.cons <| EV.name (by rfl) <| EVs.nil <|
       ((inv_ok G h hs hz4).le (by decide)).mono fun r1 H1 q1 => ?_⟩⟩
     obtain ⟨o, k1, bv1, rfl, s1, o1, o2, o3⟩ := q1
     refine EVs.cons <| EV.name (by rfl) <| EVs.nil <| (both_ok G s1.st ⟨o1, o2⟩ ⟨ha.1, by have := s1.le; (exact om88 ha this)⟩ (by have := s1.up; (exact om89 hz hk2 this))).mono fun r H' q => (q.after s1).congr fun i => ?_
     rw [o3]; (try dsimp only); rw [s1.old a i ha.2, e3 e i]; cases bv b i <;> simp
   refine EX.ifret <| IT.val <| EV.meth G <| EV.name (by rfl)
     ⟨_, _, _, _, _, 5, rfl, clsG, h.hg, h.hdg, by rfl, by rfl, by rfl, by rfl, hA, EVs.cons <| EV.name (by rfl) <| EVs.cons <| EV.name (by rfl) <| EVs.nil <| ((opp_ok (a := a) (b := b) G h hb.1).le (by decide)).mono fun r H' q => ?_⟩
   obtain ⟨e1, t, e2, e3⟩ := q
   have e1 := e1.symm; subst e1 e2
   refine ⟨t, rfl, ite_intro (fun e => ?_) (fun e => ?_)⟩
   · exact EV.meth G <| EV.name (by rfl) ⟨_, _, _, _, _, 5, rfl, clsG, h.hg, h.hdg, by rfl, by rfl, by rfl, by rfl, hA, EVs.cons <| EV.name (by rfl) <| EVs.cons <| EV.name (by rfl) <| EVs.nil <|
       (differ_ok G h hs ha hz4).mono fun r H' q => (q.sp (by decide)).congr fun i => by rw [e3 e i]; cases bv s i <;> cases bv a i <;> rfl⟩
   refine EX.cons <| EX.set <| EV.tup <| EVs.cons <| EV.str <| EVs.cons <| EV.name (by rfl) <| EVs.cons <| EV.name (by rfl) <| EVs.cons <| EV.name (by rfl) <| EVs.nil ⟨by simp, fun t ht => ?_⟩
   have s1 := h.fresh (o := .tup [S "mux", I s, I a, I b]) ht
   have f1 : Fr x H (upd H t (.tup [S "mux", I s, I a, I b])) := Fr.new ht
   have ht1 : upd H t (.tup [S "mux", I s, I a, I b]) t = some (.tup ([TK.s "mux", .i s, .i a, .i b].map TK.val)) := upd_self ..
   generalize upd H t (.tup [S "mux", I s, I a, I b]) = H1 at *
   obtain ⟨ms, h4, h5, h6, h7⟩ := s1.hdm
   refine EX.cons (EX.ite (IT.cmp (EV.name (by rfl) (EV.attr G (EV.name (by rfl) ⟨_, _, _, _, _, rfl, clsG, s1.hg, s1.hdg, by rfl, by rfl, rfl, _, CO.notInT hA h4 h5 ht1, ite_intro (fun hn => ?_) (fun hn => ?_)⟩)))))
   · have hno : atKey ms [TK.s "mux", .i s, .i a, .i b] = none := by
       cases q : atKey ms [TK.s "mux", .i s, .i a, .i b] with
       | none => rfl
       | some p => rw [q] at hn; cases hn
     refine EX.cons (EX.setitemT hA (EV.meth G (EV.attr G (EV.name (by rfl) ⟨_, _, _, _, _, rfl, clsG, s1.hg, s1.hdg, by rfl, by rfl, rfl, _, _, _, _, _, 5, rfl, clsN, s1.hn, s1.hdn, by rfl, by rfl, by rfl, by rfl, hA,
       EVs.cons <| EV.str <| EVs.cons <| EV.tup <| EVs.cons <| EV.name (by rfl) <| EVs.cons <| EV.name (by rfl) <| EVs.cons <| EV.name (by rfl) <| EVs.nil ⟨by simp, fun t2 ht2 => EVs.nil ?_⟩⟩))))
     have s2 := s1.fresh (o := .tup [I s, I a, I b]) ht2
     have f2 : Fr x H1 (upd H1 t2 (.tup [I s, I a, I b])) := Fr.new ht2
     have ht2' : upd H1 t2 (.tup [I s, I a, I b]) t2 = some (.tup ([s, a, b].map I)) := upd_self ..
     have em2 : upd H1 t2 (.tup [I s, I a, I b]) x.dm = H1 x.dm := upd_ne _ _ (by rintro rfl; rw [h4] at ht2; cases ht2)
     generalize upd H1 t2 (.tup [I s, I a, I b]) = H2 at *
     refine ((add_cell_ok G s2 ht2' (.inr (.inr (.inr (.inr ⟨rfl, rfl⟩)))) (by intro a ha; simp at ha; rcases ha with rfl | rfl | rfl <;> assumption) hz4).le (by decide)).mono fun r H3 q9 => ?_
     obtain ⟨e1, bv3, s3, o3, n3, f3, em3, eo3⟩ := q9
     subst e1
     have h43 : H3 x.dm = some (.tdict ms) := by rw [em3, em2]; exact h4
     have ht3 := s2.tup f3 (s1.tup f2 ht1)
     have h53 : keyOK H3 ms := fun p hp => s2.tup f3 (s1.tup f2 (h5 p hp))
     refine EV.attr G (EV.name (by rfl) ⟨_, _, _, _, _, rfl, clsG, s3.hg, s3.hdg, by rfl, by rfl, rfl, EV.name (by rfl) ⟨_, _, _, _, rfl, rfl, h43, h53, ht3, by (exact om90 hz hk2 h6), ?_⟩⟩)
     rw [storedH_new hno]
     have ok3 : ∀ p ∈ ms, madeOK bv3 (k + 1) p := fun p hp => by
       obtain ⟨kd, l, o, a1, a2, a3, a4, a5, a6⟩ := h7 p hp
       exact ⟨kd, l, o, a1, a2, a3, by (exact om66 a4), fun a ha => by have := a5 a ha; (exact om67 this), fun r => by rw [o3 _ r a4, a6 r]; exact (valT_congr fun a ha => o3 a r (a5 a ha).2).symm⟩
     have s4 := s3.setMade (ms := ms ++ [([TK.s "mux", .i s, .i a, .i b], t, I k)]) (fun p hp => by
       rcases List.mem_append.mp hp with hp | hp
       · exact h53 p hp
       · simp at hp; subst hp; exact ht3) (by simp; omega) (fun p hp => by
       rcases List.mem_append.mp hp with hp | hp
       · exact ok3 p hp
       · simp at hp; subst hp
         exact ⟨"mux", [s, a, b], k, rfl, rfl, by have := h.kpos; (exact om91 hz hk2), by (exact om69), fun a ha => by simp at ha; rcases ha with rfl | rfl | rfl <;> (first | exact om67 hs | exact om67 ha | exact om67 hb), fun r => by
           rw [n3 r]; exact valT_congr fun a ha => (o3 a r (by simp at ha; rcases ha with rfl | rfl | rfl <;> (first | exact om70 hs | exact om70 ha | exact om70 hb))).symm⟩)
     have f4 : Fr x H3 (upd H3 x.dm (.tdict (ms ++ [([TK.s "mux", .i s, .i a, .i b], t, I k)]))) := fun b o hb _ _ n _ => by rw [upd_ne _ _ n]; exact hb
     have ht4 := s3.tup f4 ht3
     have h54 : keyOK (upd H3 x.dm (.tdict (ms ++ [([TK.s "mux", .i s, .i a, .i b], t, I k)]))) (ms ++ [([TK.s "mux", .i s, .i a, .i b], t, I k)]) := by
       obtain ⟨ms', q1, q2, _⟩ := s4.hdm
       rw [upd_self] at q1; cases q1; exact q2
     refine EX.nil (EX.cons (EX.ret (EV.itemT hA (EV.attr G (EV.name (by rfl) ⟨_, _, _, _, _, rfl, clsG, s4.hg, s4.hdg, by rfl, by rfl, rfl, EV.name (by rfl) ⟨_, _, _, _, (t, I k), rfl, rfl, upd_self .., h54, ht4, ?_, ?_⟩⟩)))))
     · unfold atKey
       rw [List.find?_append]
       unfold atKey at hno
       rw [show List.find? (fun x => decide (x.1 = [TK.s "mux", .i s, .i a, .i b])) ms = none from by simpa using hno]
       simp
     · exact ⟨k, k + 1, bv3, rfl, ⟨s4, by (exact om71), by (exact om92), o3, (((f1.trans f2).trans f3).trans f4)⟩, by have := h.kpos; (exact om91 hz hk2), by (exact om69), fun i => by rw [n3]; exact valT_mux⟩
   · cases q : atKey ms [TK.s "mux", .i s, .i a, .i b] with
     | none => rw [q] at hn; cases hn
     | some p =>
       obtain ⟨kd, l, o, a1, a2, a3, a4, a5, a6⟩ := h7 _ (atKey_mem q)
       refine EX.nil (EX.cons (EX.ret (EV.itemT hA (EV.attr G (EV.name (by rfl) ⟨_, _, _, _, _, rfl, clsG, s1.hg, s1.hdg, by rfl, by rfl, rfl, EV.name (by rfl) ⟨_, _, _, _, p, rfl, rfl, h4, h5, ht1, q, ?_⟩⟩)))))
       have e1 : "mux" = kd ∧ [TK.i s, .i a, .i b] = l.map .i := by simpa using a1
       obtain ⟨rfl, e2⟩ := e1
       have e3 : l = [s, a, b] := by
         match l, e2 with
         | [u, v, w], e2 => simp at e2; rw [e2.1, e2.2.1, e2.2.2]
       subst e3
       exact ⟨o, k, bv, a2, ⟨s1, Int.le_refl _, by (exact om93), fun _ _ _ => rfl, f1⟩, a3, a4, fun i => by rw [a6]; exact valT_mux⟩

 have fits_ok : ∀ {c : Cx} {H : AH} (G : Gl c ((Mine.main.heap_1_39 c.w.params))) (v n : Int) (sg : Bool) (hn : 1 ≤ n ∧ n ≤ 2), FN c 1 (.ref 28) [I v, I n, .bool sg] H (fun r H' => H' = H ∧ r = .bool (fitsB sg v n)) := by
  as_aux_lemma =>
   intro c H G v n sg hn
   refine FN.def G (f := 28) (by rfl) (by rfl) (names := ["value", "width", "signed"]) (by rfl) (len3 fun _ _ _ => by rfl) (fun L => List.all_eq_true.mp (by rfl)) fun A L hA => ?_
   refine EX.cons <| EX.ite <| IT.val <| EV.name (by rfl) ⟨_, rfl, ite_intro (fun e => ?_) (fun e => EX.nil ?_)⟩
   · subst e
     refine EX.cons <| EX.set <| EV.bin <| EV.int <| EV.bin <| EV.name (by rfl) <| EV.int ⟨_, BO.sub, _, BO.shl (by (exact om99 hn)) (by (exact om100 hn)) (by decide), ?_⟩
     refine EX.cons <| EX.ret <| EV.and2 <| EV.cmp <| EV.neg <| EV.name (by rfl) ⟨_, rfl, EV.name (by rfl) ⟨_, CO.le, _, rfl, ite_intro (fun e => EV.cmp <| EV.name (by rfl) <| EV.name (by rfl) ⟨_, CO.lt, rfl, ?_⟩) (fun e => ⟨rfl, ?_⟩)⟩⟩
     · show Value.bool _ = _
       unfold fitsB; rw [if_pos rfl, e]; rfl
     · show Value.bool _ = _
       unfold fitsB; rw [if_pos rfl, e]; rfl
   · subst e
     refine EX.cons <| EX.ret <| EV.and2 <| EV.cmp <| EV.int <| EV.name (by rfl) ⟨_, CO.le, _, rfl, ite_intro (fun e => EV.cmp <| EV.name (by rfl) <| EV.bin <| EV.int <| EV.name (by rfl) ⟨_, BO.shl (by (exact om101 hn)) (by (exact om102 hn)) (by decide), _, CO.lt, rfl, ?_⟩) (fun e => ⟨rfl, ?_⟩)⟩
     · show Value.bool _ = _
       unfold fitsB; rw [if_neg Bool.false_ne_true, e]; rfl
     · show Value.bool _ = _
       unfold fitsB; rw [if_neg Bool.false_ne_true, e]; rfl

 have hits_ok : ∀ {c : Cx} {H : AH} {x : Ad} {k : Int} {bv : BV} (G : Gl c ((Mine.main.heap_1_39 c.w.params))) (h : ST x k bv H) {li lv : Addr} {ins vals : List Int} {sg : Bool} (hli : H li = some (.list (ins.map I))) (nli : li ≠ x.lc) (hlv : H lv = some (.list (vals.map I))) (nlv : lv ≠ x.lc) (hin : ∀ a ∈ ins, 0 ≤ a ∧ a < k) (hlen : ins.length = 1 ∨ ins.length = 2) (hvl : vals.length ≤ 10) (hz : k ≤ 10000), FN c 7 (.ref 33) [Rf x.g, Rf li, .bool sg, Rf lv] H (LP x k bv H (2 + 2 * vals.length) vals.length fun j r => decide (iv sg (ins.map (bv · r)) = vals.getD j 0)) := by
  as_aux_lemma =>
   intro c H x k bv G h li lv ins vals sg hli nli hlv nlv hin hlen hvl hz
   have hk2 := h.kpos
   refine FN.def G (f := 33) (by rfl) (by rfl) (names := ["g", "index", "signed", "values"]) (by rfl) (len4 fun _ _ _ _ => by rfl) (fun L => List.all_eq_true.mp (by rfl)) fun A L hA => ?_
   refine EX.cons <| EX.setcompL hA.1 <| EV.name (by rfl) ⟨li, ins.map I, fun i ys H' => ∃ k' bv' vs, Step x k bv H k' bv' H' i ∧ ys = vs.map I ∧ vs.length = i ∧ Sp k' bv' vs (fun j r => !bv (ins.getD j 0) r), rfl, by simp; (exact om103 hlen),
     fun i ys H' ⟨k', bv', vs, s, e1, e2, e3⟩ => ⟨h.lst s.fr hli nli, by rw [e1]; simpa using e2⟩, ⟨k, bv, [], Step.refl h (by decide), rfl, rfl, Sp.nil⟩, fun C cl i v ys H1 hv hi => ?_, fun ys H1 D hi hD => ?_⟩
   · obtain ⟨a, ha, rfl, hmem, hlt, hgd⟩ := getI hv
     obtain ⟨k', bv', vs, s, e1, e2, e3⟩ := hi
     have := s.le; have := s.up; have ra := hin a hmem
     refine EV.meth G <| EV.name (by rfl) ⟨_, _, _, _, _, 4, rfl, clsG, s.st.hg, s.st.hdg, by rfl, by rfl, by rfl, by rfl, hA.le (by decide), EVs.cons <| EV.name (by rfl) <| EVs.nil <| (inv_ok G s.st (a := a) ⟨ra.1, by (exact om104 (by assumption) ra)⟩ (by (exact om105 hlen hz hk2 hlt e2 (by assumption) this))).mono fun r H' q => ?_⟩
     obtain ⟨o, k2, bv2, rfl, s2, o0, o1, o2⟩ := q
     exact ⟨k2, bv2, vs ++ [o], (s.trans s2).sp (by push_cast; (exact om106)), by rw [e1]; simp, by simp [e2], (e3.mono s2).push o0 o1 fun r => by rw [o2]; (try dsimp only); rw [s.old a r ra.2, e2, hgd]⟩
   obtain ⟨k1, bv1, ivs, s1, rfl, e2, e3⟩ := hi
   rw [List.length_map] at s1 e2
   have nDi := (s1.st.newne hD).1
   have s1 := s1.alloc hD (.list (ivs.map I))
   have hDi : upd H1 D (.list (ivs.map I)) D = some (.list (ivs.map I)) := upd_self ..
   generalize upd H1 D (.list (ivs.map I)) = H2 at *
   refine EX.cons <| EX.set <| EV.list (by simp) <| EVs.nil ⟨by simp, fun Dh hDh => ?_⟩
   have nDh := (s1.st.newne hDh).1
   have h0 := s1.none hDh
   have hne : Dh ≠ D := by rintro rfl; rw [hDi] at hDh; cases hDh
   have f2 : Fr x H2 (upd H2 Dh (.list [])) := Fr.new hDh
   have hDi := s1.st.lst f2 hDi nDi
   have s1 := s1.alloc hDh (.list [])
   have hDh : upd H2 Dh (.list []) Dh = some (.list []) := upd_self ..
   generalize upd H2 Dh (.list []) = H3 at *
   let names : List (Str × Value) := [("g", Rf x.g), ("index", Rf li), ("signed", .bool sg), ("inverted", Rf D), ("hits", Rf Dh)]
   refine EX.cons <| EX.forL hA.1 <| EV.name (by rfl) ⟨lv, vals.map I, fun i H' m' => ∃ k' bv' vs, Step x k bv H k' bv' H' (2 + 2 * i) ∧ H' Dh = some (.list (vs.map I)) ∧ vs.length = i ∧ Sp k' bv' vs (fun j r => decide (iv sg (ins.map (bv · r)) = vals.getD j 0)) ∧
     H' D = some (.list (ivs.map I)) ∧ Sp k' bv' ivs (fun j r => !bv (ins.getD j 0) r) ∧ Has m' names, rfl,
     fun i H' m' ⟨k', bv', vs, s, _⟩ => h.lst s.fr hlv nlv, ⟨k1, bv1, [], s1.sp (by (exact om107 hlen)), hDh, rfl, Sp.nil, hDi, e3, rfl, rfl, rfl, rfl, rfl, trivial⟩, fun i v H4 m4 hv hi => ?_, fun H4 m4 hi => ?_⟩
   rotate_left
   · obtain ⟨k', bv', vs, s, q1, q2, q3, _, _, hm⟩ := hi
     rw [List.length_map] at s q2
     exact EX.cons <| EX.ret <| EV.name (hm.get (by rfl)) ⟨Dh, vs, k', bv', rfl, s, h0, nDh, q1, q2, q3⟩
   obtain ⟨w, hw, rfl, hmem, hlt, hgd⟩ := getI hv
   obtain ⟨k2, bv2, vs, s2, q1, q2, q3, q4, q5, hm⟩ := hi
   have hm2 : Has (mset m4 "value" (I w)) names := hm.set
   have hvv : mset m4 "value" (I w) "value" = some (I w) := mset_self ..
   refine AS.name ?_
   generalize mset m4 "value" (I w) = m5 at *
   refine EX.cons <| EX.set <| EV.int ?_
   have hm3 : Has (mset m5 "hit" (I 0)) names := hm2.set
   have hvv2 : mset m5 "hit" (I 0) "value" = some (I w) := hvv
   have hh : mset m5 "hit" (I 0) "hit" = some (I 0) := mset_self ..
   generalize mset m5 "hit" (I 0) = m6 at *
   have u2 := s2.up; have l2 := s2.le
   refine EX.cons <| EX.mono (Q := fun f H' m' => f = .next ∧ ∃ k' bv' o, Step x k2 bv2 H4 k' bv' H' 2 ∧ m' "hit" = some (I o) ∧ 0 ≤ o ∧ o < k' ∧ (∀ r, bv' o r = decide (iv sg (ins.map (bv · r)) = w)) ∧ Has m' names) ?_ ?_
   · refine EX.ite <| IT.val <| EV.callF G (by rfl) (by rfl) (hA.le (by decide : 1 ≤ 6)) <| EVs.cons <| EV.name hvv2 <| EVs.cons <| EV.len G (by rfl) <| EV.name (hm3.get (by rfl)) ⟨li, _, rfl, h.lst s2.fr hli nli, by simp; (exact om108 hlen), EVs.cons <| EV.name (hm3.get (by rfl)) <| EVs.nil <|
       (fits_ok G w _ sg (by simp; (exact om109 hlen e2))).mono fun r H' q9 => ?_⟩
     obtain ⟨e1, e2⟩ := q9
     have e1 := e1.symm; subst e1 e2
     rw [List.length_map]
     have bl : ∀ r, (ins.map (bv · r)).length = ins.length := fun r => by simp
     refine ⟨_, rfl, ite_intro (fun hf => ?_) (fun hf => EX.nil ⟨rfl, k2, bv2, 0, Step.refl s2.st (by decide), hh, by decide, by (exact om110 hvl hz hk2 hlt q2 u2 l2), fun r => by
       rw [s2.st.b0]; exact (hits_nofin (by rw [bl]; exact hlen) (by rw [bl]; exact hf)).symm, hm3⟩)⟩
     refine EX.cons <| EX.set <| EV.int ?_
     have hm4 : Has (mset m6 "hit" (I 1)) names := hm3.set
     have hvv4 : mset m6 "hit" (I 1) "value" = some (I w) := hvv2
     have hh4 : mset m6 "hit" (I 1) "hit" = some (I 1) := mset_self ..
     generalize mset m6 "hit" (I 1) = m7 at *
     refine EX.cons <| EX.forR G (by rfl) hA.1 <| EV.len G (by rfl) <| EV.name (hm4.get (by rfl)) ⟨li, _, rfl, h.lst s2.fr hli nli, by simp; (exact om108 hlen), ins.length, fun p H' m' => ∃ k' bv' o, Step x k2 bv2 H4 k' bv' H' p ∧ m' "hit" = some (I o) ∧ 0 ≤ o ∧ o < k' ∧
       (∀ r, bv' o r = (List.range p).all fun j => bt w j == bv (ins.getD j 0) r) ∧ Has m' names ∧ m' "value" = some (I w), by simp, by (exact om111 hlen),
       ⟨k2, bv2, 1, Step.refl s2.st (by decide), hh4, by decide, by (exact om112 hvl hz hk2 hlt q2 u2 l2), fun r => by rw [s2.st.b1]; rfl, hm4, hvv4⟩, fun p H5 m8 hp hi => ?_, fun H5 m8 hi => EX.nil ?_⟩
     rotate_left
     · obtain ⟨k3, bv3, o, s3, r1, r2, r3, r4, hm5, _⟩ := hi
       refine ⟨rfl, k3, bv3, o, s3.sp (by (exact om113 hlen)), r1, r2, r3, fun r => ?_, hm5⟩
       rw [r4, ← hits_fin (by rw [bl]; exact hlen) (by rw [bl]; exact hf), bl]
       refine congrArg _ (funext fun j => ?_)
       have b00 := h.b0 r
       by_cases hj : j < ins.length
       · simp [List.getD_eq_getElem?_getD, List.getElem?_eq_getElem hj]
       · have h1 : ins[j]? = Option.none := List.getElem?_eq_none (by (exact om55 hj))
         simp [List.getD_eq_getElem?_getD, h1, b00]
     obtain ⟨k3, bv3, o, s3, r1, r2, r3, r4, hm5, hvv5⟩ := hi
     have s23 := s2.trans s3
     obtain ⟨a, ha, ha2, hmem2, hgd2⟩ := atI hp
     have ra := hin a hmem2
     have u3 := s3.up; have l3 := s3.le
     have hm6 : Has (mset m8 "place" (I p)) names := hm5.set
     have hvv6 : mset m8 "place" (I p) "value" = some (I w) := hvv5
     have hh6 : mset m8 "place" (I p) "hit" = some (I o) := r1
     have hp6 : mset m8 "place" (I p) "place" = some (I p) := mset_self ..
     generalize mset m8 "place" (I p) = m9 at *
     have hli3 := h.lst s23.fr hli nli
     have hiv3 := s2.st.lst s3.fr q4 nDi
     have hivl : p < ivs.length := by rw [e2]; exact hp
     obtain ⟨b, hb, hb2, _, hgdb⟩ := atI hivl
     obtain ⟨b0, b1, b2⟩ := q5.mono s3 p b hb
     refine EX.cons <| EX.ite <| IT.val <| EV.bin <| EV.bin <| EV.name hvv6 <| EV.name hp6 ⟨_, BO.shr (by (exact om114)), EV.int ⟨_, BO.band, _, rfl, ite_intro (fun hbt => ?_) (fun hbt => ?_)⟩⟩
     · refine EX.cons <| EX.set <| EV.meth G <| EV.name (hm6.get (by rfl)) ⟨_, _, _, _, _, 5, rfl, clsG, s3.st.hg, s3.st.hdg, by rfl, by rfl, by rfl, by rfl, hA.le (by decide), EVs.cons <| EV.name hh6 <| EVs.cons <| EV.item <| EV.name (hm6.get (by rfl)) <| EV.name hp6
         ⟨_, _, _, _, rfl, rfl, hli3, by (exact om114), by (exact om115 hlen hp), ha2, EVs.nil <| (both_ok G s3.st ⟨r2, r3⟩ ⟨ra.1, by (exact om116 hvl hlt q2 u2 l2 ra l3)⟩ (by (exact om117 hlen hvl hz hk2 hlt q2 u2 l2 hp u3 l3))).mono fun r H' q => ?_⟩⟩
       obtain ⟨o2, k4, bv4, rfl, s4, o20, o21, o22⟩ := q
       refine EX.nil <| EX.nil ⟨rfl, k4, bv4, o2, (s3.trans s4).sp (by push_cast; (exact om106)), mset_self .., o20, o21, fun r => ?_, hm6.set, hvv6⟩
       rw [o22]; (try dsimp only); rw [r4, all_succ, hgd2, s23.old a r ra.2, beq_t (a := bt w p) hbt]
     · refine EX.cons <| EX.set <| EV.meth G <| EV.name (hm6.get (by rfl)) ⟨_, _, _, _, _, 5, rfl, clsG, s3.st.hg, s3.st.hdg, by rfl, by rfl, by rfl, by rfl, hA.le (by decide), EVs.cons <| EV.name hh6 <| EVs.cons <| EV.item <| EV.name (hm6.get (by rfl)) <| EV.name hp6
         ⟨_, _, _, _, rfl, rfl, hiv3, by (exact om114), by (exact om115 hlen hp), hb2, EVs.nil <| (both_ok G s3.st ⟨r2, r3⟩ ⟨b0, b1⟩ (by (exact om117 hlen hvl hz hk2 hlt q2 u2 l2 hp u3 l3))).mono fun r H' q => ?_⟩⟩
       obtain ⟨o2, k4, bv4, rfl, s4, o20, o21, o22⟩ := q
       refine EX.nil <| EX.nil ⟨rfl, k4, bv4, o2, (s3.trans s4).sp (by push_cast; (exact om106)), mset_self .., o20, o21, fun r => ?_, hm6.set, hvv6⟩
       rw [o22]; (try dsimp only); rw [r4, all_succ, b2, beq_f (a := bt w p) hbt]
   · rintro f H5 m7 ⟨rfl, k3, bv3, o, s3, r1, r2, r3, r4, hm5⟩
     have hDh3 := s2.st.lst s3.fr q1 nDh
     have hDi3 := s2.st.lst s3.fr q4 nDi
     refine EX.cons <| EX.expr <| EV.append <| EV.name (hm5.get (by rfl)) ⟨_, _, rfl, hDh3, EV.name r1 ⟨_, hDh3, by simp; (exact om118 hvl hlt q2), (fun _ e => nomatch e), EX.nil ⟨rfl, k3, bv3, vs ++ [o], ?_, ?_, by simp [q2], (q3.mono s3).push r2 r3 fun r => by rw [r4, q2, hgd], ?_, q5.mono s3, hm5⟩⟩⟩
     · exact ((s2.trans s3).setL h0 hDh3 nDh).sp (by push_cast; (exact om119))
     · rw [upd_self]; simp
     · rw [upd_ne _ _ (Ne.symm hne)]; exact hDi3

 have place_ok : ∀ {c : Cx} {H : AH} {x : Ad} {k : Int} {bv : BV} (G : Gl c ((Mine.main.heap_1_39 c.w.params))) (h : ST x k bv H) {li : Addr} {ins : List Int} {sg : Bool} {base step : Int} {w whole : Nat} (hli : H li = some (.list (ins.map I))) (nli : li ≠ x.lc) (hin : ∀ a ∈ ins, 0 ≤ a ∧ a < k) (hlen : ins.length = 1 ∨ ins.length = 2) (hst : step = 1 ∨ step = -1) (hw : 1 ≤ w ∧ w ≤ 2) (hwh : 1 ≤ whole ∧ whole ≤ 3) (hz : k ≤ 5000), FN c 8 (.ref 38) [Rf x.g, Rf li, .bool sg, I base, I step, I w, I whole] H (fun r H' => ∃ D RW k' bv', r = Rf D ∧ Step x k bv H k' bv' H' 10 ∧ H D = none ∧ D ≠ x.lc ∧ RWs k' bv' H' D RW (lowOf sg ins bv base step) ∧ RW.length ≤ 4 ∧
      ∀ r, 1 - (w : Int) ≤ lowOf sg ins bv base step r → lowOf sg ins bv base step r < whole → ∃ q ∈ RW, q.2.1 = lowOf sg ins bv base step r) := by
  as_aux_lemma =>
   intro c H x k bv G h li ins sg base step w whole hli nli hin hlen hst hw hwh hz
   have hk2 := h.kpos
   refine FN.def G (f := 38) (by rfl) (by rfl) (names := ["g", "index", "signed", "base", "step", "width", "whole"]) (by rfl) (len7 fun _ _ _ _ _ _ _ => by rfl) (fun L => List.all_eq_true.mp (by rfl)) fun A L hA => ?_
   have hst0 : step ≠ 0 := by (exact om120 hst)
   generalize hN : ((whole : Int) - (1 - w)).toNat = N
   have hN2 : (N : Int) = whole + w - 1 := by (exact om121 hw hwh hN)
   refine EX.cons <| EX.setcomp hA.1 <| SRC.range2 G (by rfl) <| EV.bin <| EV.int <| EV.name (by rfl) ⟨_, BO.sub, EV.name (by rfl) ⟨_, _, rfl, rfl, by (exact om122 hw hN2), by (exact om123 hw hN2), by (exact om124 hwh), by (exact om125 hwh),
     (List.range N).map (fun j : Nat => I (1 - w + (j : Int))), fun i ys H' => H' = H ∧ ys = (List.range i).map (fun j : Nat => I (1 - w + (j : Int))), by simp; (exact om126 hw hwh hN2), fun i ys H' ⟨e1, e2⟩ => ⟨by rw [hN]; rfl, by simp [e2]⟩, ⟨rfl, rfl⟩,
     fun C cl i v ys H1 hv q9 => ?_, fun ys H1 D q9 hD => ?_⟩⟩
   obtain ⟨e1, e2⟩ := q9
   rotate_left 1
   obtain ⟨e1, e2⟩ := q9
   rotate_right 1
   · subst e1
     rw [List.getElem?_map] at hv
     obtain ⟨j, hj, rfl⟩ := Option.map_eq_some_iff.mp hv
     obtain ⟨hlt, hij⟩ := List.getElem?_eq_some_iff.mp hj
     rw [List.getElem_range] at hij
     subst hij
     refine TS.one <| IT.cmp <| EV.bin <| EV.name (by rfl) <| EV.name (by rfl) ⟨_, BO.mod hst0, EV.int ⟨_, CO.eq, ?_⟩⟩
     rw [if_pos (decide_eq_true (fmod_pm hst))]
     exact EV.name (by rfl) ⟨rfl, by rw [e2, List.range_succ]; simp⟩
   have e1 := e1.symm; subst e1 e2
   rw [List.length_map, List.length_range]
   generalize hP : (List.range N).map (fun j : Nat => 1 - (w : Int) + (j : Int)) = P
   have eP : (List.range N).map (fun j : Nat => I (1 - w + (j : Int))) = P.map I := by rw [← hP, List.map_map]; rfl
   have lP : P.length = N := by rw [← hP]; simp
   have gP : ∀ j, j < N → P[j]? = some (1 - (w : Int) + j) := fun j hj => by rw [← hP, List.getElem?_map, List.getElem?_range hj]; rfl
   rw [eP]
   have nD := (h.newne hD).1
   have s1 := (Step.refl h (Int.le_refl 0)).alloc hD (.list (P.map I))
   have hDP : upd H D (.list (P.map I)) D = some (.list (P.map I)) := upd_self ..
   generalize upd H D (.list (P.map I)) = H2 at *
   refine EX.cons <| EX.set <| EV.callF G (by rfl) (by rfl) (hA.le (by decide : 7 ≤ 7)) <| EVs.cons <| EV.name (by rfl) <| EVs.cons <| EV.name (by rfl) <| EVs.cons <| EV.name (by rfl) <| EVs.cons <| EV.compL hA.1 <| EV.name (by rfl)
     ⟨D, P.map I, fun i ys H' => H' = H2 ∧ ys = (List.range i).map (fun j : Nat => I (base + (1 - w + (j : Int)) * step)), rfl, by simp; (exact om127 hw hwh hN2 lP), fun i ys H' ⟨e1, e2⟩ => ⟨by rw [e1]; exact hDP, by simp [e2]⟩, ⟨rfl, rfl⟩, fun C cl i v ys H3 hv q9 => ?_, fun ys H3 D2 ⟨e1, e2⟩ hD2 => EVs.nil ?_⟩
   obtain ⟨e1, e2⟩ := q9
   · obtain ⟨a, ha, rfl, _, hlt, _⟩ := getI hv
     rw [lP] at hlt
     rw [gP i hlt] at ha; cases ha
     subst e1
     exact EV.bin <| EV.name (by rfl) <| EV.bin <| EV.name (by rfl) <| EV.name (by rfl) ⟨_, BO.floordiv hst0 (by omega), _, BO.add, rfl, by rw [e2, List.range_succ, fdiv_pm hst]; simp⟩
   subst e1 e2
   rw [List.length_map, lP]
   generalize hV : (List.range N).map (fun j : Nat => base + (1 - (w : Int) + (j : Int)) * step) = V
   have eV : (List.range N).map (fun j : Nat => I (base + (1 - w + (j : Int)) * step)) = V.map I := by rw [← hV, List.map_map]; rfl
   have lV : V.length = N := by rw [← hV]; simp
   have gV : ∀ j, j < N → V.getD j 0 = base + (1 - (w : Int) + j) * step := fun j hj => by rw [List.getD_eq_getElem?_getD, ← hV, List.getElem?_map, List.getElem?_range hj]; rfl
   rw [eV]
   have nD2 := (s1.st.newne hD2).1
   have f2 : Fr x H3 (upd H3 D2 (.list (V.map I))) := Fr.new hD2
   have hDP := s1.st.lst f2 hDP nD
   have s1 := s1.alloc hD2 (.list (V.map I))
   have hDV : upd H3 D2 (.list (V.map I)) D2 = some (.list (V.map I)) := upd_self ..
   generalize upd H3 D2 (.list (V.map I)) = H4 at *
   refine (hits_ok G s1.st (sg := sg) (h.lst s1.fr hli nli) nli hDV nD2 hin hlen (by (exact om128 hw hwh hN2 lP lV)) (by (exact om129 hz hk2))).mono fun r H5 q9 => ?_
   obtain ⟨Dh, ns, k2, bv2, e, s2, h0, nDh, hDh, ln, sp⟩ := q9
   subst e
   have s12 := s1.trans s2
   have hDP := s1.st.lst s2.fr hDP nD
   have hit : ∀ (j : Nat) (a : Int), ns[j]? = some a → 0 ≤ a ∧ a < k2 ∧ ∀ r, bv2 a r = decide (1 - (w : Int) + j = lowOf sg ins bv base step r) := fun j a hj => by
     obtain ⟨a1, a2, a3⟩ := sp j a hj
     have hjN : j < N := by have := (List.getElem?_eq_some_iff.mp hj).1; (exact om130 lP lV ln this)
     refine ⟨a1, a2, fun r => ?_⟩
     rw [a3 r]; (try dsimp only); rw [gV j hjN]
     unfold lowOf
     congr 1
     refine propext ⟨fun e => ?_, fun e => ?_⟩
     · rw [e]; rcases hst with rfl | rfl <;> (first | exact om131 | exact om132)
     · rw [e]; rcases hst with rfl | rfl <;> (first | exact om133 | exact om134)
   refine EX.cons <| EX.set <| EV.list (by simp) <| EVs.nil ⟨by simp, fun Dr hDr => ?_⟩
   have nDr := (s2.st.newne hDr).1
   have h0r := s12.none hDr
   have f5 : Fr x H5 (upd H5 Dr (.list [])) := Fr.new hDr
   have hDP := s2.st.lst f5 hDP nD
   have hDh := s2.st.lst f5 hDh nDh
   have s12 := s12.alloc hDr (.list [])
   have hDr' : upd H5 Dr (.list []) Dr = some (.list []) := upd_self ..
   generalize upd H5 Dr (.list []) = H6 at *
   have hneP : D ≠ Dr := by rintro rfl; rw [hDr'] at hDP; have := congrArg (fun o => match o with | some (.list l) => l.length | _ => 0) hDP; simp at this; (exact om135 hw hwh hN2 lP lV ln this)
   have hneh : Dh ≠ Dr := by rintro rfl; rw [hDr'] at hDh; have := congrArg (fun o => match o with | some (.list l) => l.length | _ => 0) hDh; simp at this; (exact om136 hw hwh hN2 lP lV ln this)
   let names : List (Str × Value) := [("places", Rf D), ("hits", Rf Dh), ("rows", Rf Dr)]
   refine EX.cons <| EX.forR G (by rfl) hA.1 <| EV.len G (by rfl) <| EV.name (by rfl) ⟨D, _, rfl, hDP, by simp; (exact om137 hw hwh hN2 lP lV ln), N, fun i H' m' => ∃ RW, Step x k bv H k2 bv2 H' 10 ∧ H' D = some (.list (P.map I)) ∧ H' Dh = some (.list (ns.map I)) ∧ RWs k2 bv2 H' Dr RW (lowOf sg ins bv base step) ∧ RW.length ≤ i ∧
     (∀ (j : Nat) r, j < i → 1 - (w : Int) + j = lowOf sg ins bv base step r → ∃ q ∈ RW, q.2.1 = lowOf sg ins bv base step r) ∧ Has m' names, by simp [lP], by (exact om138 hw hwh hN2 lP lV ln), ?_, fun i H7 m7 hi q9 => ?_, fun H7 m7 q9 => ?_⟩
   rotate_left 1
   obtain ⟨RW, q1, q2, q2', q3, q4, q5, hm⟩ := q9
   rotate_right 1
   rotate_left 2
   obtain ⟨RW, q1, q2, q2', q3, q4, q5, hm⟩ := q9
   rotate_right 2
   · exact ⟨[], s12.sp (by (exact om139 hw hwh hN2 lP lV ln)), hDP, hDh, ⟨hDr', fun q hq => nomatch hq⟩, Nat.le_refl _, fun j r hj => absurd hj (by (exact om140 hj)), rfl, rfl, rfl, trivial⟩
   · obtain ⟨a, ha, ha2, hmem, hgd⟩ := atI (ns := ns) (i := i) (by (exact om141 lP lV ln hi))
     obtain ⟨a0, a1, a2⟩ := hit i a ha
     have hm2 : Has (mset m7 "turn" (I i)) names := hm.set
     have ht : mset m7 "turn" (I i) "turn" = some (I i) := mset_self ..
     generalize mset m7 "turn" (I i) = m8 at *
     refine EX.cons <| EX.ite <| IT.cmp <| EV.item <| EV.name (hm2.get (by rfl)) <| EV.name ht ⟨_, _, _, _, rfl, rfl, q2', by (exact om114), by (exact om142 hw hwh hN2 lP lV ln hi), ha2, EV.int ⟨_, CO.ne, ite_intro (fun hne => ?_) (fun hne => ?_)⟩⟩
     · refine EX.cons <| EX.expr <| EV.append <| EV.name (hm2.get (by rfl)) ⟨_, _, rfl, q3.1, EV.tup <| EVs.cons <| EV.item <| EV.name (hm2.get (by rfl)) <| EV.name ht ⟨_, _, _, _, rfl, rfl, q2, by (exact om114), by (exact om142 hw hwh hN2 lP lV ln hi), by rw [Int.toNat_natCast, List.getElem?_map, gP i hi]; rfl,
         EVs.cons <| EV.item <| EV.name (hm2.get (by rfl)) <| EV.name ht ⟨_, _, _, _, rfl, rfl, q2', by (exact om114), by (exact om142 hw hwh hN2 lP lV ln hi), ha2, EVs.nil ⟨by simp, fun t ht => ?_⟩⟩⟩⟩
       have nt : Dr ≠ t := by rintro rfl; rw [q3.1] at ht; cases ht
       have hDr7 : upd H7 t (.tup [I (1 - (w : Int) + i), I a]) Dr = some (.list (RW.map fun q => Rf q.1)) := by rw [upd_ne _ _ nt]; exact q3.1
       have ft : Fr x H7 (upd H7 t (.tup [I (1 - (w : Int) + i), I a])) := Fr.new ht
       have q2 := q1.st.lst ft q2 nD
       have q2' := q1.st.lst ft q2' nDh
       have q3b := fun p hp => q1.st.tup ft (q3.2 p hp).1
       have hself : upd H7 t (.tup [I (1 - (w : Int) + i), I a]) t = some (.tup [I (1 - (w : Int) + i), I a]) := upd_self ..
       have q1 := q1.alloc ht (.tup [I (1 - (w : Int) + i), I a])
       generalize upd H7 t (.tup [I (1 - (w : Int) + i), I a]) = H8 at *
       refine ⟨_, hDr7, by simp; (exact om143 hw hwh hN2 lP lV ln hi q4), (fun _ e => nomatch e), EX.nil <| EX.nil ⟨rfl, RW ++ [(t, 1 - (w : Int) + i, a)], ?_, ?_, ?_, ⟨?_, fun p hp => ?_⟩, ?_, fun j r hj he => ?_, hm2⟩⟩
       · exact q1.setL h0r hDr7 nDr
       · rw [upd_ne _ _ hneP]; exact q2
       · rw [upd_ne _ _ hneh]; exact q2'
       · rw [upd_self]; simp
       · rcases List.mem_append.mp hp with hp | hp
         · refine ⟨?_, (q3.2 p hp).2⟩
           have := q3b p hp
           rw [upd_ne]; exact this
           intro e; rw [e, hDr7] at this; cases this
         · cases List.mem_singleton.mp hp
           refine ⟨?_, a0, a1, by simp; (exact om144 hw hN2 lP lV ln), by simp; (exact om145 hwh hN2 lP lV ln hi), a2⟩
           rw [upd_ne _ _ (Ne.symm nt)]; exact hself
       · simp; omega
       · by_cases z : j = i
         · subst z; exact ⟨_, List.mem_append_right _ (List.mem_singleton.mpr rfl), he⟩
         · obtain ⟨q, hq, e⟩ := q5 j r (by (exact om146 hj z)) he
           exact ⟨q, List.mem_append_left _ hq, e⟩
     · refine EX.nil <| EX.nil ⟨rfl, RW, q1, q2, q2', q3, by (exact om147 q4), fun j r hj he => ?_, hm2⟩
       by_cases z : j = i
       · subst z
         have ea : a = 0 := by simpa using hne
         subst ea
         have := a2 r
         rw [q1.st.b0, eq_comm, decide_eq_false_iff_not] at this
         exact absurd he this
       · exact q5 j r (by (exact om146 hj z)) he
   · refine EX.cons <| EX.ret <| EV.name (hm.get (by rfl)) ⟨Dr, RW, k2, bv2, rfl, q1, h0r, nDr, q3, by (exact om148 hw hwh hN2 lP lV ln q4), fun r h1 h2 => ?_⟩
     exact q5 (lowOf sg ins bv base step r - (1 - w)).toNat r (by (exact om149 hw hwh hN2 lP lV ln h1 h2)) (by (exact om150 hN2 lP lV ln h1))

 have read_ok : ∀ {c : Cx} {H : AH} {x : Ad} {k : Int} {bv : BV} (G : Gl c ((Mine.main.heap_1_39 c.w.params))) (h : ST x k bv H) {lb D : Addr} {bits : List Int} {RW : RWL} {low : Nat → Int} {w : Nat} (hlb : H lb = some (.list (bits.map I))) (nlb : lb ≠ x.lc) (hb : ∀ a ∈ bits, 0 ≤ a ∧ a < k) (hR : RWs k bv H D RW low) (nD : D ≠ x.lc) (hRl : RW.length ≤ 4) (hw : 1 ≤ w ∧ w ≤ 2) (hbl : bits.length ≤ 10) (comp : ∀ r, 1 - (w : Int) ≤ low r → low r < bits.length → ∃ q ∈ RW, q.2.1 = low r) (hz : k ≤ 10000), FN c 8 (.ref 45) [Rf x.g, Rf lb, Rf D, I w] H (LP x k bv H (8 * w) w fun p r => decide (0 ≤ low r + p ∧ low r + p < bits.length) && bv (bits.getD (low r + p).toNat 0) r) := by
  as_aux_lemma =>
   intro c H x k bv G h lb D bits RW low w hlb nlb hb hR nD hRl hw hbl comp hz
   have hk2 := h.kpos
   refine FN.def G (f := 45) (by rfl) (by rfl) (names := ["g", "bits", "rows", "width"]) (by rfl) (len4 fun _ _ _ _ => by rfl) (fun L => List.all_eq_true.mp (by rfl)) fun A L hA => ?_
   refine EX.cons <| EX.set <| EV.list (by simp) <| EVs.nil ⟨by simp, fun Dr hDr => ?_⟩
   have nDr := (h.newne hDr).1
   have s1 := (Step.refl h (Int.le_refl 0)).alloc hDr (.list [])
   have hDr' : upd H Dr (.list []) Dr = some (.list []) := upd_self ..
   generalize upd H Dr (.list []) = H1 at *
   let names : List (Str × Value) := [("g", Rf x.g), ("bits", Rf lb), ("rows", Rf D), ("width", I w), ("result", Rf Dr)]
   refine EX.cons <| EX.forR G (by rfl) hA.1 <| EV.name (by rfl) ⟨w, fun i H' m' => ∃ k' bv' vs, Step x k bv H k' bv' H' (8 * i) ∧ H' Dr = some (.list (vs.map I)) ∧ vs.length = i ∧
     Sp k' bv' vs (fun p r => decide (0 ≤ low r + p ∧ low r + p < bits.length) && bv (bits.getD (low r + p).toNat 0) r) ∧ Has m' names, rfl, by (exact om151 hw), ⟨k, bv, [], s1, hDr', rfl, Sp.nil, rfl, rfl, rfl, rfl, rfl, trivial⟩, fun p H2 m2 hp q9 => ?_, fun H2 m2 q9 => ?_⟩
   obtain ⟨k2, bv2, vs, s2, q1, q2, q3, hm⟩ := q9
   rotate_left 1
   obtain ⟨k2, bv2, vs, s2, q1, q2, q3, hm⟩ := q9
   rotate_right 1
   rotate_left
   · exact EX.cons <| EX.ret <| EV.name (hm.get (by rfl)) ⟨Dr, vs, k2, bv2, rfl, s2, hDr, nDr, q1, q2, q3⟩
   have hm : Has (mset m2 "place" (I p)) names := hm.set
   have hpl : mset m2 "place" (I p) "place" = some (I p) := mset_self ..
   generalize mset m2 "place" (I p) = m3 at *
   let names2 : List (Str × Value) := ("place", I p) :: names
   have hm : Has m3 names2 := ⟨hpl, hm⟩
   have u2 := s2.up; have l2 := s2.le
   refine EX.cons <| EX.set <| EV.int ?_
   let INV : Nat → AH → Ms → Prop := fun i H' m' => ∃ k' bv' o, Step x k2 bv2 H2 k' bv' H' (2 * i) ∧ m' "net" = some (I o) ∧ 0 ≤ o ∧ o < k' ∧
     (∀ r, bv' o r = (RW.take i).any fun q => decide (q.2.1 = low r) && (decide (0 ≤ q.2.1 + p ∧ q.2.1 + p < bits.length) && bv (bits.getD (q.2.1 + p).toNat 0) r)) ∧ Has m' names2
   refine EX.cons <| EX.forL hA.1 <| EV.name (hm.set.get (by rfl)) ⟨D, _, INV, rfl, fun i H' m' ⟨k', bv', o, s', _⟩ => ((hR.mono h nD (s2.trans s'))).1,
     ⟨k2, bv2, 0, Step.refl s2.st (Int.le_refl 0), mset_self .., by decide, by (exact om152 hw hz hk2 hp q2 u2 l2), fun r => by rw [s2.st.b0]; rfl, hm.set⟩, fun i v H3 m4 hv q9 => ?_, fun H3 m4 q9 => ?_⟩
   obtain ⟨k3, bv3, o, s3, r1, r2, r3, r4, hm⟩ := q9
   rotate_left 1
   obtain ⟨k3, bv3, o, s3, r1, r2, r3, r4, hm⟩ := q9
   rotate_right 1
   · rw [List.getElem?_map] at hv
     obtain ⟨q, hq, rfl⟩ := Option.map_eq_some_iff.mp hv
     have hi := (List.getElem?_eq_some_iff.mp hq).1
     have hmem := List.mem_of_getElem? hq
     have s23 := s2.trans s3
     have hR3 := hR.mono h nD s23
     obtain ⟨t1, t2, t3, t4, t5, t6⟩ := hR3.2 q hmem
     have u3 := s3.up; have l3 := s3.le
     refine AS.tup hA.1 ⟨q.1, _, rfl, t1, rfl, ASL.cons <| AS.name <| ASL.cons <| AS.name <| ASL.nil ?_⟩
     have hm : Has (mset (mset m4 "lo" (I q.2.1)) "hit" (I q.2.2)) names2 := hm.set.set
     have hlo : mset (mset m4 "lo" (I q.2.1)) "hit" (I q.2.2) "lo" = some (I q.2.1) := (mset_self m4 "lo" (I q.2.1) : _)
     have hhit : mset (mset m4 "lo" (I q.2.1)) "hit" (I q.2.2) "hit" = some (I q.2.2) := mset_self ..
     have hnet : mset (mset m4 "lo" (I q.2.1)) "hit" (I q.2.2) "net" = some (I o) := r1
     generalize mset (mset m4 "lo" (I q.2.1)) "hit" (I q.2.2) = m5 at *
     refine EX.cons <| EX.set <| EV.bin <| EV.name hlo <| EV.name (hm.get (by rfl)) ⟨_, BO.add, ?_⟩
     have hm : Has (mset m5 "at" (I (q.2.1 + p))) names2 := hm.set
     have hat : mset m5 "at" (I (q.2.1 + p)) "at" = some (I (q.2.1 + p)) := mset_self ..
     have hhit2 : mset m5 "at" (I (q.2.1 + p)) "hit" = some (I q.2.2) := hhit
     have hnet2 : mset m5 "at" (I (q.2.1 + p)) "net" = some (I o) := hnet
     generalize mset m5 "at" (I (q.2.1 + p)) = m6 at *
     have hlb3 := h.lst s23.fr hlb nlb
     have skip : ¬ (0 ≤ q.2.1 + p ∧ q.2.1 + p < bits.length) → INV (i + 1) H3 m6 := fun n =>
       ⟨k3, bv3, o, s3.sp (by (exact om153)), hnet2, r2, r3, fun r => by rw [r4, any_take hq, decide_eq_false n]; simp, hm⟩
     refine EX.cons <| EX.ite <| IT.and <| IT.cmp <| EV.int <| EV.name hat ⟨_, CO.le, ite_intro (fun h1 => IT.and <| IT.cmp <| EV.name hat <| EV.len G (by rfl) <| EV.name (hm.get (by rfl)) ⟨lb, _, rfl, hlb3, by simp; (exact om154 hbl), _, CO.lt,
       ite_intro (fun h2 => IT.and_nil <| if_tt ?_) (fun h2 => if_ff <| EX.nil <| EX.nil ⟨rfl, skip fun n => of_decide_eq_false h2 (by rw [List.length_map]; exact n.2)⟩)⟩) (fun h1 => if_ff <| EX.nil <| EX.nil ⟨rfl, skip fun n => of_decide_eq_false h1 n.1⟩)⟩
     have h1 := of_decide_eq_true h1
     have h2 := of_decide_eq_true h2
     rw [List.length_map] at h2
     obtain ⟨b, hb1, hb2, hbm, hgd⟩ := atI (ns := bits) (i := (q.2.1 + p).toNat) (by (exact om155 q2 h1 h2))
     have rb := hb b hbm
     rw [show ((q.2.1 + p).toNat : Int) = q.2.1 + p by (exact om156 q2 h1)] at hb2
     refine EX.cons <| EX.set <| EV.meth G <| EV.name (hm.get (by rfl)) ⟨_, _, _, _, _, 5, rfl, clsG, s3.st.hg, s3.st.hdg, by rfl, by rfl, by rfl, by rfl, hA.le (by decide), EVs.cons <| EV.name hnet2 <| EVs.cons <|
       EV.meth G <| EV.name (hm.get (by rfl)) ⟨_, _, _, _, _, 5, rfl, clsG, s3.st.hg, s3.st.hdg, by rfl, by rfl, by rfl, by rfl, hA.le (by decide), EVs.cons <| EV.name hhit2 <| EVs.cons <| EV.item <| EV.name (hm.get (by rfl)) <| EV.name hat
         ⟨_, _, _, _, rfl, rfl, hlb3, h1, by (exact om157 hbl q2 h2), hb2, EVs.nil <| (both_ok G s3.st ⟨t2, t3⟩ ⟨rb.1, by (exact om158 l2 l3 rb)⟩ (by (exact om159 hRl hbl hz hk2 q2 u2 hi t4 t5 u3 h1 h2))).mono fun r H4 qq => EVs.nil ?_⟩⟩⟩
     obtain ⟨o2, k4, bv4, rfl, s4, o20, o21, o22⟩ := qq
     have u4 := s4.up; have l4 := s4.le
     refine (either_ok G s4.st ⟨r2, by (exact om160 r3 u4 l4)⟩ ⟨o20, o21⟩ (by (exact om161 hRl hbl hz hk2 q2 u2 hi t4 t5 u3 h1 h2 u4 l4))).mono fun r H5 qq => ?_
     obtain ⟨o3, k5, bv5, rfl, s5, o30, o31, o32⟩ := qq
     refine EX.nil <| EX.nil ⟨rfl, k5, bv5, o3, ((s3.trans s4).trans s5).sp (by push_cast; (exact om162)), mset_self .., o30, o31, fun r => ?_, hm.set⟩
     rw [o32]; (try dsimp only); rw [s4.old _ _ r3, r4, o22]; (try dsimp only)
     rw [any_take hq, t6, decide_eq_true (show 0 ≤ q.2.1 + p ∧ q.2.1 + p < bits.length from ⟨h1, h2⟩), Bool.true_and, hgd, s23.old b r rb.2]
   · rw [List.length_map] at s3 r4
     rw [List.take_length] at r4
     have hDr3 := s2.st.lst s3.fr q1 nDr
     refine EX.cons <| EX.expr <| EV.append <| EV.name (hm.get (by rfl)) ⟨_, _, rfl, hDr3, EV.name r1 ⟨_, hDr3, by simp; (exact om163 hw hp q2), (fun _ e => nomatch e), EX.nil ⟨rfl, k3, bv3, vs ++ [o], ?_, by rw [upd_self]; simp, by simp [q2], (q3.mono s3).push r2 r3 fun r => ?_, hm.2⟩⟩⟩
     · exact ((s2.trans s3).setL hDr hDr3 nDr).sp (by push_cast; (exact om164 hRl))
     · rw [r4, q2]
       refine rowAny_eq (g := fun v => decide (0 ≤ v + p ∧ v + p < bits.length) && bv (bits.getD (v + p).toNat 0) r) fun e => ?_
       have e := of_decide_eq_true (Bool.and_eq_true_iff.mp e).1
       exact comp r (by (exact om165 hbl hp q2 e)) (by (exact om166 hw hp q2 e))

 have write_ok : ∀ {c : Cx} {H : AH} {x : Ad} {k : Int} {bv : BV} (G : Gl c ((Mine.main.heap_1_39 c.w.params))) (h : ST x k bv H) {lb D lp : Addr} {bits part : List Int} {en : Int} {RW : RWL} {low : Nat → Int} (hlb : H lb = some (.list (bits.map I))) (nlb : lb ≠ x.lc) (hb : ∀ a ∈ bits, 0 ≤ a ∧ a < k) (hlp : H lp = some (.list (part.map I))) (nlp : lp ≠ x.lc) (hp : ∀ a ∈ part, 0 ≤ a ∧ a < k) (he : 0 ≤ en ∧ en < k) (hR : RWs k bv H D RW low) (nD : D ≠ x.lc) (hRl : RW.length ≤ 4) (hw : 1 ≤ part.length ∧ part.length ≤ 2) (hbl : bits.length ≤ 10) (comp : ∀ r, 1 - (part.length : Int) ≤ low r → low r < bits.length → ∃ q ∈ RW, q.2.1 = low r) (hz : k ≤ 10000), FN c 8 (.ref 52) [Rf x.g, Rf lb, Rf D, Rf lp, I en] H (LP x k bv H 20 bits.length fun t r => if bv en r && inP (low r) part.length t then bv (part.getD (t - low r).toNat 0) r else bv (bits.getD t 0) r) := by
  as_aux_lemma =>
   intro c H x k bv G h lb D lp bits part en RW low hlb nlb hb hlp nlp hp he hR nD hRl hw hbl comp hz
   have hk2 := h.kpos
   refine FN.def G (f := 52) (by rfl) (by rfl) (names := ["g", "bits", "rows", "part", "enable"]) (by rfl) (len5 fun _ _ _ _ _ => by rfl) (fun L => List.all_eq_true.mp (by rfl)) fun A L hA => ?_
   refine EX.cons <| EX.set <| EV.listOf G (by rfl) <| EV.name (by rfl) ⟨lb, _, rfl, hlb, by simp; (exact om172 hbl), fun Dr hDr => ?_⟩
   have nDr := (h.newne hDr).1
   have s1 := (Step.refl h (Int.le_refl 0)).alloc hDr (.list (bits.map I))
   have hDr' : upd H Dr (.list (bits.map I)) Dr = some (.list (bits.map I)) := upd_self ..
   generalize upd H Dr (.list (bits.map I)) = H1 at *
   let names : List (Str × Value) := [("g", Rf x.g), ("bits", Rf lb), ("rows", Rf D), ("part", Rf lp), ("enable", I en), ("result", Rf Dr)]
   let φ : (Nat → Nat → Bool) → Nat → Nat → Bool := fun C t r => if bv en r && C t r then bv (part.getD (t - low r).toNat 0) r else bv (bits.getD t 0) r
   let INV : Nat → AH → Ms → Prop := fun i H' m' => ∃ k' bv' vs, Step x k bv H k' bv' H' (5 * i) ∧ H' Dr = some (.list (vs.map I)) ∧ vs.length = bits.length ∧ Sp k' bv' vs (φ fun t r => seen RW low i r && inP (low r) part.length t) ∧ Has m' names
   refine EX.cons <| EX.forL hA.1 <| EV.name (by rfl) ⟨D, _, INV, rfl, fun i H' m' ⟨k', bv', o, s', _⟩ => (hR.mono h nD s').1, ⟨k, bv, bits, s1, hDr', rfl, fun t a ht => ?_, rfl, rfl, rfl, rfl, rfl, rfl, trivial⟩, fun i v H2 m2 hv q9 => ?_, fun H2 m2 q9 => ?_⟩
   rotate_left 1
   obtain ⟨k2, bv2, vs, s2, q1, q2, q3, hm⟩ := q9
   rotate_right 1
   rotate_left 2
   obtain ⟨k2, bv2, vs, s2, q1, q2, q3, hm⟩ := q9
   rotate_right 2
   · have := hb a (List.mem_of_getElem? ht)
     refine ⟨this.1, this.2, fun r => ?_⟩
     show _ = if bv en r && (seen RW low 0 r && _) then _ else _
     rw [show seen RW low 0 r = false from rfl, Bool.false_and, Bool.and_false, if_neg Bool.false_ne_true, List.getD_eq_getElem?_getD, ht]; rfl
   rotate_left
   · rw [List.length_map] at s2 q3
     refine EX.cons <| EX.ret <| EV.name (hm.get (by rfl)) ⟨Dr, vs, k2, bv2, rfl, s2.sp (by (exact om173 hRl)), hDr, nDr, q1, q2, q3.congr fun t r ht => ?_⟩
     show (if bv en r && (seen RW low RW.length r && _) then _ else _) = _
     rw [seen_all comp (by (exact om174 q2 ht))]
   · rw [List.getElem?_map] at hv
     obtain ⟨q, hq, rfl⟩ := Option.map_eq_some_iff.mp hv
     have hi := (List.getElem?_eq_some_iff.mp hq).1
     have hmem := List.mem_of_getElem? hq
     have hR2 := hR.mono h nD s2
     obtain ⟨t1, t2, t3, t4, t5, t6⟩ := hR2.2 q hmem
     have u2 := s2.up; have l2 := s2.le
     refine AS.tup hA.1 ⟨q.1, _, rfl, t1, rfl, ASL.cons <| AS.name <| ASL.cons <| AS.name <| ASL.nil ?_⟩
     have hm : Has (mset (mset m2 "lo" (I q.2.1)) "hit" (I q.2.2)) names := hm.set.set
     have hlo : mset (mset m2 "lo" (I q.2.1)) "hit" (I q.2.2) "lo" = some (I q.2.1) := (mset_self m2 "lo" (I q.2.1) : _)
     have hhit : mset (mset m2 "lo" (I q.2.1)) "hit" (I q.2.2) "hit" = some (I q.2.2) := mset_self ..
     generalize mset (mset m2 "lo" (I q.2.1)) "hit" (I q.2.2) = m5 at *
     refine EX.cons <| EX.set <| EV.meth G <| EV.name (hm.get (by rfl)) ⟨_, _, _, _, _, 5, rfl, clsG, s2.st.hg, s2.st.hdg, by rfl, by rfl, by rfl, by rfl, hA.le (by decide), EVs.cons <| EV.name hhit <| EVs.cons <| EV.name (hm.get (by rfl)) <| EVs.nil <|
       (both_ok G s2.st ⟨t2, t3⟩ ⟨he.1, by (exact om88 he l2)⟩ (by (exact om175 hRl hz hk2 hi u2 l2))).mono fun r H3 qq => ?_⟩
     obtain ⟨o, k3, bv3, rfl, s3, o0, o1, o2⟩ := qq
     have hwn : ∀ r, bv3 o r = (decide (q.2.1 = low r) && bv en r) := fun r => by rw [o2]; (try dsimp only); rw [t6, s2.old _ _ he.2]
     have u3 := s3.up; have l3 := s3.le
     have hm : Has (mset m5 "wanted" (I o)) (("lo", I q.2.1) :: ("wanted", I o) :: names) := ⟨hlo, mset_self .., hm.set⟩
     generalize mset m5 "wanted" (I o) = m6 at *
     let names2 : List (Str × Value) := ("lo", I q.2.1) :: ("wanted", I o) :: names
     have q1' := s2.st.lst s3.fr q1 nDr
     have s23 := s2.trans s3
     let INV2 : Nat → AH → Ms → Prop := fun j H' m' => ∃ k' bv' vs, Step x k bv H k' bv' H' (5 * i + 1 + 2 * j) ∧ o < k' ∧ (∀ r, bv' o r = (decide (q.2.1 = low r) && bv en r)) ∧ H' Dr = some (.list (vs.map I)) ∧ vs.length = bits.length ∧ Sp k' bv' vs (φ fun t r => cov (seen RW low i r) (low r) q.2.1 part.length j t) ∧ Has m' names2
     refine EX.cons <| EX.forR G (by rfl) hA.1 <| EV.len G (by rfl) <| EV.name (hm.get (by rfl)) ⟨lp, _, rfl, h.lst s23.fr hlp nlp, by simp; (exact om176 hw), part.length, INV2, by simp, by (exact om151 hw),
       ⟨k3, bv3, vs, s23, o1, hwn, q1', q2, (q3.mono s3).congr fun t r ht => ?_, hm⟩, fun j H4 m7 hj q9 => ?_, fun H4 m7 ⟨k4, bv4, ws, s4, w1, w2, r1, r2, r3, hm⟩ => EX.nil ⟨rfl, k4, bv4, ws, s4.sp (by push_cast; (exact om177 hw)), r1, r2, r3.congr fun t r ht => ?_, hm.2.2⟩⟩
     rotate_left 1
     obtain ⟨k4, bv4, ws, s4, w1, w2, r1, r2, r3, hm⟩ := q9
     rotate_right 1
     · show (if bv en r && _ then _ else _) = (if bv en r && cov _ _ _ _ ((0 : Nat) : Int) t then _ else _)
       rw [show ((0 : Nat) : Int) = 0 from rfl, cov_zero]
     rotate_left
     · show (if bv en r && cov _ _ _ _ _ t then _ else _) = (if bv en r && (seen RW low (i + 1) r && _) then _ else _)
       rw [cov_full, show seen RW low (i + 1) r = (seen RW low i r || decide (q.2.1 = low r)) from any_take hq]
     have u4 := s4.up; have l4 := s4.le
     have hm : Has (mset m7 "place" (I j)) (("place", I j) :: names2) := ⟨mset_self .., hm.set⟩
     generalize mset m7 "place" (I j) = m8 at *
     refine EX.cons <| EX.set <| EV.bin <| EV.name (hm.get (by rfl)) <| EV.name (hm.get (by rfl)) ⟨_, BO.add, ?_⟩
     have hm : Has (mset m8 "at" (I (q.2.1 + j))) (("at", I (q.2.1 + j)) :: ("place", I j) :: names2) := ⟨mset_self .., hm.set⟩
     generalize mset m8 "at" (I (q.2.1 + j)) = m9 at *
     have skip : ¬ (0 ≤ q.2.1 + j ∧ q.2.1 + j < bits.length) → INV2 (j + 1) H4 m9 := fun n =>
       ⟨k4, bv4, ws, s4.sp (by (exact om178)), w1, w2, r1, r2, r3.congr fun t r ht => by
         show (if bv en r && cov _ _ _ _ _ t then _ else _) = (if bv en r && cov _ _ _ _ ((j + 1 : Nat) : Int) t then _ else _)
         rw [cov_ne (by (exact om179 q2 r2 n ht))]; rfl, hm.2.2⟩
     refine EX.cons <| EX.ite <| IT.and <| IT.cmp <| EV.int <| EV.name (hm.get (by rfl)) ⟨_, CO.le, ite_intro (fun h1 => IT.and <| IT.cmp <| EV.name (hm.get (by rfl)) <| EV.len G (by rfl) <| EV.name (hm.get (by rfl)) ⟨Dr, _, rfl, r1, by simp; (exact om180 hbl q2 r2), _, CO.lt,
       ite_intro (fun h2 => IT.and_nil <| if_tt ?_) (fun h2 => if_ff <| EX.nil <| EX.nil ⟨rfl, skip fun n => of_decide_eq_false h2 (by rw [List.length_map, r2]; exact n.2)⟩)⟩) (fun h1 => if_ff <| EX.nil <| EX.nil ⟨rfl, skip fun n => of_decide_eq_false h1 n.1⟩)⟩
     have h1 := of_decide_eq_true h1
     have h2 := of_decide_eq_true h2
     rw [List.length_map, r2] at h2
     obtain ⟨b, hb1, hb2, _, hgd⟩ := atI (ns := ws) (i := (q.2.1 + j).toNat) (by (exact om181 hbl q2 r2 h1 h2))
     obtain ⟨b0, b1, b2⟩ := r3 _ b hb1
     rw [show ((q.2.1 + j).toNat : Int) = q.2.1 + j by (exact om182 h1)] at hb2
     obtain ⟨a, ha1, ha2, ham, hga⟩ := atI (ns := part) (i := j) hj
     have ra := hp a ham
     have hlp4 := h.lst s4.fr hlp nlp
     refine EX.cons <| EX.setitem <| EV.meth G <| EV.name (hm.get (by rfl)) ⟨_, _, _, _, _, 6, rfl, clsG, s4.st.hg, s4.st.hdg, by rfl, by rfl, by rfl, by rfl, hA.le (by decide), EVs.cons <| EV.name (hm.get (by rfl)) <| EVs.cons <|
       EV.item <| EV.name (hm.get (by rfl)) <| EV.name (hm.get (by rfl)) ⟨_, _, _, _, rfl, rfl, r1, h1, by (exact om183 hbl q2 r2 h2), hb2, EVs.cons <| EV.item <| EV.name (hm.get (by rfl)) <| EV.name (hm.get (by rfl)) ⟨_, _, _, _, rfl, rfl, hlp4, by (exact om114), by (exact om184 hw hj), ha2,
         EVs.nil <| (mux_ok G s4.st ⟨o0, w1⟩ ⟨b0, b1⟩ ⟨ra.1, by (exact om185 hRl hw hi hj u4 l4 ra)⟩ (by (exact om186 hRl hw hz hk2 hi hj u4))).mono fun r H5 qq => ?_⟩⟩⟩
     obtain ⟨o3, k5, bv5, rfl, s5, o30, o31, o32⟩ := qq
     have r1' := s4.st.lst s5.fr r1 nDr
     have l5 := s5.le
     refine EV.name (hm.get (by rfl)) <| EV.name (hm.get (by rfl)) ⟨Dr, _, _, rfl, rfl, r1', h1, by (exact om183 hbl q2 r2 h2), by rw [List.length_map, r2]; exact h2, EX.nil <| EX.nil ⟨rfl, k5, bv5, ws.set (q.2.1 + j).toNat o3, ((s4.trans s5).setL hDr r1' nDr).sp (by push_cast; (exact om187)), by (exact om61 w1 l5),
       fun r => by rw [s5.old _ _ w1, w2], by rw [upd_self, List.map_set], by simp [r2], (r3.mono s5).set o30 o31 (fun r => ?_) (fun t r ht => ?_), hm.2.2⟩⟩
     · rw [o32]; (try dsimp only)
       rw [w2, b2, s4.old _ _ ra.2]
       show _ = if bv en r && cov _ _ _ _ ((j + 1 : Nat) : Int) _ then _ else _
       rw [show ((j + 1 : Nat) : Int) = (j : Int) + 1 from rfl, cov_at (by (exact om182 h1)) (by (exact om114))]
       by_cases z : q.2.1 = low r
       · rw [decide_eq_true z, Bool.true_and, Bool.true_or, Bool.and_true]
         by_cases y : bv en r = true
         · rw [if_pos y, if_pos y, ← hga]; congr 2; (exact om188 hw hbl q2 t4 t5 hj r2 h1 h2 z)
         · rw [if_neg y, if_neg y]
           show (if bv en r && _ then _ else _) = _
           rw [Bool.eq_false_iff.mpr y]; rfl
       · rw [decide_eq_false z, Bool.false_and, Bool.false_or, if_neg Bool.false_ne_true]
     · show (if bv en r && cov _ _ _ _ _ t then _ else _) = (if bv en r && cov _ _ _ _ ((j + 1 : Nat) : Int) t then _ else _)
       rw [cov_ne (by (exact om189 h1 ht))]; rfl

 have mark_ok : ∀ {c : Cx} {H : AH} {x : Ad} {k : Int} {bv : BV} (G : Gl c ((Mine.main.heap_1_39 c.w.params))) (h : ST x k bv H) {lb D : Addr} {bits : List Int} {en : Int} {w : Nat} {RW : RWL} {low : Nat → Int} (hlb : H lb = some (.list (bits.map I))) (nlb : lb ≠ x.lc) (hb : ∀ a ∈ bits, 0 ≤ a ∧ a < k) (he : 0 ≤ en ∧ en < k) (hR : RWs k bv H D RW low) (nD : D ≠ x.lc) (hRl : RW.length ≤ 4) (hw : 1 ≤ w ∧ w ≤ 2) (hbl : bits.length ≤ 10) (comp : ∀ r, 1 - (w : Int) ≤ low r → low r < bits.length → ∃ q ∈ RW, q.2.1 = low r) (hz : k ≤ 10000), FN c 8 (.ref 59) [Rf x.g, Rf lb, Rf D, I w, I en] H (LP x k bv H 20 bits.length fun t r => bv (bits.getD t 0) r || (bv en r && inP (low r) w t)) := by
  as_aux_lemma =>
   intro c H x k bv G h lb D bits en w RW low hlb nlb hb he hR nD hRl hw hbl comp hz
   have hk2 := h.kpos
   refine FN.def G (f := 59) (by rfl) (by rfl) (names := ["g", "marks", "rows", "width", "enable"]) (by rfl) (len5 fun _ _ _ _ _ => by rfl) (fun L => List.all_eq_true.mp (by rfl)) fun A L hA => ?_
   refine EX.cons <| EX.set <| EV.listOf G (by rfl) <| EV.name (by rfl) ⟨lb, _, rfl, hlb, by simp; (exact om172 hbl), fun Dr hDr => ?_⟩
   have nDr := (h.newne hDr).1
   have s1 := (Step.refl h (Int.le_refl 0)).alloc hDr (.list (bits.map I))
   have hDr' : upd H Dr (.list (bits.map I)) Dr = some (.list (bits.map I)) := upd_self ..
   generalize upd H Dr (.list (bits.map I)) = H1 at *
   let names : List (Str × Value) := [("g", Rf x.g), ("marks", Rf lb), ("rows", Rf D), ("width", I w), ("enable", I en), ("result", Rf Dr)]
   let φ : (Nat → Nat → Bool) → Nat → Nat → Bool := fun C t r => bv (bits.getD t 0) r || (bv en r && C t r)
   let INV : Nat → AH → Ms → Prop := fun i H' m' => ∃ k' bv' vs, Step x k bv H k' bv' H' (5 * i) ∧ H' Dr = some (.list (vs.map I)) ∧ vs.length = bits.length ∧ Sp k' bv' vs (φ fun t r => seen RW low i r && inP (low r) w t) ∧ Has m' names
   refine EX.cons <| EX.forL hA.1 <| EV.name (by rfl) ⟨D, _, INV, rfl, fun i H' m' ⟨k', bv', o, s', _⟩ => (hR.mono h nD s').1, ⟨k, bv, bits, s1, hDr', rfl, fun t a ht => ?_, rfl, rfl, rfl, rfl, rfl, rfl, trivial⟩, fun i v H2 m2 hv q9 => ?_, fun H2 m2 q9 => ?_⟩
   rotate_left 1
   obtain ⟨k2, bv2, vs, s2, q1, q2, q3, hm⟩ := q9
   rotate_right 1
   rotate_left 2
   obtain ⟨k2, bv2, vs, s2, q1, q2, q3, hm⟩ := q9
   rotate_right 2
   · have := hb a (List.mem_of_getElem? ht)
     refine ⟨this.1, this.2, fun r => ?_⟩
     show _ = (_ || (bv en r && (seen RW low 0 r && _)))
     rw [show seen RW low 0 r = false from rfl, Bool.false_and, Bool.and_false, Bool.or_false, List.getD_eq_getElem?_getD, ht]; rfl
   rotate_left
   · rw [List.length_map] at s2 q3
     refine EX.cons <| EX.ret <| EV.name (hm.get (by rfl)) ⟨Dr, vs, k2, bv2, rfl, s2.sp (by (exact om173 hRl)), hDr, nDr, q1, q2, q3.congr fun t r ht => ?_⟩
     show (_ || (bv en r && (seen RW low RW.length r && _))) = _
     rw [seen_all comp (by (exact om174 q2 ht))]
   · rw [List.getElem?_map] at hv
     obtain ⟨q, hq, rfl⟩ := Option.map_eq_some_iff.mp hv
     have hi := (List.getElem?_eq_some_iff.mp hq).1
     have hmem := List.mem_of_getElem? hq
     have hR2 := hR.mono h nD s2
     obtain ⟨t1, t2, t3, t4, t5, t6⟩ := hR2.2 q hmem
     have u2 := s2.up; have l2 := s2.le
     refine AS.tup hA.1 ⟨q.1, _, rfl, t1, rfl, ASL.cons <| AS.name <| ASL.cons <| AS.name <| ASL.nil ?_⟩
     have hm : Has (mset (mset m2 "lo" (I q.2.1)) "hit" (I q.2.2)) names := hm.set.set
     have hlo : mset (mset m2 "lo" (I q.2.1)) "hit" (I q.2.2) "lo" = some (I q.2.1) := (mset_self m2 "lo" (I q.2.1) : _)
     have hhit : mset (mset m2 "lo" (I q.2.1)) "hit" (I q.2.2) "hit" = some (I q.2.2) := mset_self ..
     generalize mset (mset m2 "lo" (I q.2.1)) "hit" (I q.2.2) = m5 at *
     refine EX.cons <| EX.set <| EV.meth G <| EV.name (hm.get (by rfl)) ⟨_, _, _, _, _, 5, rfl, clsG, s2.st.hg, s2.st.hdg, by rfl, by rfl, by rfl, by rfl, hA.le (by decide), EVs.cons <| EV.name hhit <| EVs.cons <| EV.name (hm.get (by rfl)) <| EVs.nil <|
       (both_ok G s2.st ⟨t2, t3⟩ ⟨he.1, by (exact om88 he l2)⟩ (by (exact om175 hRl hz hk2 hi u2 l2))).mono fun r H3 qq => ?_⟩
     obtain ⟨o, k3, bv3, rfl, s3, o0, o1, o2⟩ := qq
     have hwn : ∀ r, bv3 o r = (decide (q.2.1 = low r) && bv en r) := fun r => by rw [o2]; (try dsimp only); rw [t6, s2.old _ _ he.2]
     have u3 := s3.up; have l3 := s3.le
     have hm : Has (mset m5 "wanted" (I o)) (("lo", I q.2.1) :: ("wanted", I o) :: names) := ⟨hlo, mset_self .., hm.set⟩
     generalize mset m5 "wanted" (I o) = m6 at *
     let names2 : List (Str × Value) := ("lo", I q.2.1) :: ("wanted", I o) :: names
     have q1' := s2.st.lst s3.fr q1 nDr
     have s23 := s2.trans s3
     let INV2 : Nat → AH → Ms → Prop := fun j H' m' => ∃ k' bv' vs, Step x k bv H k' bv' H' (5 * i + 1 + 2 * j) ∧ o < k' ∧ (∀ r, bv' o r = (decide (q.2.1 = low r) && bv en r)) ∧ H' Dr = some (.list (vs.map I)) ∧ vs.length = bits.length ∧ Sp k' bv' vs (φ fun t r => cov (seen RW low i r) (low r) q.2.1 w j t) ∧ Has m' names2
     refine EX.cons <| EX.forR G (by rfl) hA.1 <| EV.name (hm.get (by rfl)) ⟨w, INV2, rfl, by (exact om151 hw),
       ⟨k3, bv3, vs, s23, o1, hwn, q1', q2, (q3.mono s3).congr fun t r ht => ?_, hm⟩, fun j H4 m7 hj q9 => ?_, fun H4 m7 ⟨k4, bv4, ws, s4, w1, w2, r1, r2, r3, hm⟩ => EX.nil ⟨rfl, k4, bv4, ws, s4.sp (by push_cast; (exact om177 hw)), r1, r2, r3.congr fun t r ht => ?_, hm.2.2⟩⟩
     rotate_left 1
     obtain ⟨k4, bv4, ws, s4, w1, w2, r1, r2, r3, hm⟩ := q9
     rotate_right 1
     · show (_ || (bv en r && _)) = (_ || (bv en r && cov _ _ _ _ ((0 : Nat) : Int) t))
       rw [show ((0 : Nat) : Int) = 0 from rfl, cov_zero]
     rotate_left
     · show (_ || (bv en r && cov _ _ _ _ _ t)) = (_ || (bv en r && (seen RW low (i + 1) r && _)))
       rw [cov_full, show seen RW low (i + 1) r = (seen RW low i r || decide (q.2.1 = low r)) from any_take hq]
     have u4 := s4.up; have l4 := s4.le
     have hm : Has (mset m7 "place" (I j)) (("place", I j) :: names2) := ⟨mset_self .., hm.set⟩
     generalize mset m7 "place" (I j) = m8 at *
     refine EX.cons <| EX.set <| EV.bin <| EV.name (hm.get (by rfl)) <| EV.name (hm.get (by rfl)) ⟨_, BO.add, ?_⟩
     have hm : Has (mset m8 "at" (I (q.2.1 + j))) (("at", I (q.2.1 + j)) :: ("place", I j) :: names2) := ⟨mset_self .., hm.set⟩
     generalize mset m8 "at" (I (q.2.1 + j)) = m9 at *
     have skip : ¬ (0 ≤ q.2.1 + j ∧ q.2.1 + j < bits.length) → INV2 (j + 1) H4 m9 := fun n =>
       ⟨k4, bv4, ws, s4.sp (by (exact om178)), w1, w2, r1, r2, r3.congr fun t r ht => by
         show (_ || (bv en r && cov _ _ _ _ _ t)) = (_ || (bv en r && cov _ _ _ _ ((j + 1 : Nat) : Int) t))
         rw [cov_ne (by (exact om179 q2 r2 n ht))]; rfl, hm.2.2⟩
     refine EX.cons <| EX.ite <| IT.and <| IT.cmp <| EV.int <| EV.name (hm.get (by rfl)) ⟨_, CO.le, ite_intro (fun h1 => IT.and <| IT.cmp <| EV.name (hm.get (by rfl)) <| EV.len G (by rfl) <| EV.name (hm.get (by rfl)) ⟨Dr, _, rfl, r1, by simp; (exact om180 hbl q2 r2), _, CO.lt,
       ite_intro (fun h2 => IT.and_nil <| if_tt ?_) (fun h2 => if_ff <| EX.nil <| EX.nil ⟨rfl, skip fun n => of_decide_eq_false h2 (by rw [List.length_map, r2]; exact n.2)⟩)⟩) (fun h1 => if_ff <| EX.nil <| EX.nil ⟨rfl, skip fun n => of_decide_eq_false h1 n.1⟩)⟩
     have h1 := of_decide_eq_true h1
     have h2 := of_decide_eq_true h2
     rw [List.length_map, r2] at h2
     obtain ⟨b, hb1, hb2, _, hgd⟩ := atI (ns := ws) (i := (q.2.1 + j).toNat) (by (exact om181 hbl q2 r2 h1 h2))
     obtain ⟨b0, b1, b2⟩ := r3 _ b hb1
     rw [show ((q.2.1 + j).toNat : Int) = q.2.1 + j by (exact om182 h1)] at hb2
     refine EX.cons <| EX.setitem <| EV.meth G <| EV.name (hm.get (by rfl)) ⟨_, _, _, _, _, 5, rfl, clsG, s4.st.hg, s4.st.hdg, by rfl, by rfl, by rfl, by rfl, hA.le (by decide), EVs.cons <|
       EV.item <| EV.name (hm.get (by rfl)) <| EV.name (hm.get (by rfl)) ⟨_, _, _, _, rfl, rfl, r1, h1, by (exact om183 hbl q2 r2 h2), hb2, EVs.cons <| EV.name (hm.get (by rfl)) <|
         EVs.nil <| (either_ok G s4.st ⟨b0, b1⟩ ⟨o0, w1⟩ (by (exact om190 hRl hw hz hk2 hi hj u4))).mono fun r H5 qq => ?_⟩⟩
     obtain ⟨o3, k5, bv5, rfl, s5, o30, o31, o32⟩ := qq
     have r1' := s4.st.lst s5.fr r1 nDr
     have l5 := s5.le
     refine EV.name (hm.get (by rfl)) <| EV.name (hm.get (by rfl)) ⟨Dr, _, _, rfl, rfl, r1', h1, by (exact om183 hbl q2 r2 h2), by rw [List.length_map, r2]; exact h2, EX.nil <| EX.nil ⟨rfl, k5, bv5, ws.set (q.2.1 + j).toNat o3, ((s4.trans s5).setL hDr r1' nDr).sp (by push_cast; (exact om191)), by (exact om61 w1 l5),
       fun r => by rw [s5.old _ _ w1, w2], by rw [upd_self, List.map_set], by simp [r2], (r3.mono s5).set o30 o31 (fun r => ?_) (fun t r ht => ?_), hm.2.2⟩⟩
     · rw [o32]; (try dsimp only)
       rw [w2, b2]
       show (_ || (bv en r && cov _ _ _ _ _ _) || _) = (_ || (bv en r && cov _ _ _ _ ((j + 1 : Nat) : Int) _))
       rw [show ((j + 1 : Nat) : Int) = (j : Int) + 1 from rfl, cov_at (by (exact om182 h1)) (by (exact om114))]
       generalize bv (bits.getD (q.2.1 + ↑j).toNat 0) r = B1
       generalize cov (seen RW low i r) (low r) q.2.1 (↑w) (↑j) (q.2.1 + ↑j).toNat = B2
       cases B1 <;> cases B2 <;> cases bv en r <;> cases decide (q.2.1 = low r) <;> rfl
     · show (_ || (bv en r && cov _ _ _ _ _ t)) = (_ || (bv en r && cov _ _ _ _ ((j + 1 : Nat) : Int) t))
       rw [cov_ne (by (exact om189 h1 ht))]; rfl

 have readw_ok : ∀ {c : Cx} {H : AH} {x : Ad} {k : Int} {bv : BV} (G : Gl c ((Mine.main.heap_1_39 c.w.params))) (h : ST x k bv H) {lw lh : Addr} {ws : WL} {hs : List Int} {w : Nat} (hM : MemAt x k H lw ws w) (nlw : lw ≠ x.lc) (hlh : H lh = some (.list (hs.map I))) (nlh : lh ≠ x.lc) (hh : ∀ a ∈ hs, 0 ≤ a ∧ a < k) (hl : hs.length = ws.length) (hwl : ws.length ≤ 4) (hw : 1 ≤ w ∧ w ≤ 2) (hz : k ≤ 10000), FN c 8 (.ref 66) [Rf x.g, Rf lw, Rf lh, I w] H (LP x k bv H (8 * w) w fun p r => (List.range ws.length).any fun t => bv (hs.getD t 0) r && bv (wd ws t p) r) := by
  as_aux_lemma =>
   intro c H x k bv G h lw lh ws hs w hM nlw hlh nlh hh hl hwl hw hz
   have hk2 := h.kpos
   refine FN.def G (f := 66) (by rfl) (by rfl) (names := ["g", "words", "hits", "width"]) (by rfl) (len4 fun _ _ _ _ => by rfl) (fun L => List.all_eq_true.mp (by rfl)) fun A L hA => ?_
   refine EX.cons <| EX.set <| EV.list (by simp) <| EVs.nil ⟨by simp, fun Dr hDr => ?_⟩
   have nDr := (h.newne hDr).1
   have s1 := (Step.refl h (Int.le_refl 0)).alloc hDr (.list [])
   have hDr' : upd H Dr (.list []) Dr = some (.list []) := upd_self ..
   generalize upd H Dr (.list []) = H1 at *
   let names : List (Str × Value) := [("g", Rf x.g), ("words", Rf lw), ("hits", Rf lh), ("width", I w), ("result", Rf Dr)]
   refine EX.cons <| EX.forR G (by rfl) hA.1 <| EV.name (by rfl) ⟨w, fun i H' m' => ∃ k' bv' vs, Step x k bv H k' bv' H' (8 * i) ∧ H' Dr = some (.list (vs.map I)) ∧ vs.length = i ∧
     Sp k' bv' vs (fun p r => (List.range ws.length).any fun t => bv (hs.getD t 0) r && bv (wd ws t p) r) ∧ Has m' names, rfl, by (exact om151 hw), ⟨k, bv, [], s1.sp (by (exact om193)), hDr', rfl, Sp.nil, rfl, rfl, rfl, rfl, rfl, trivial⟩, fun p H2 m2 hp q9 => ?_, fun H2 m2 q9 => ?_⟩
   obtain ⟨k2, bv2, vs, s2, q1, q2, q3, hm⟩ := q9
   rotate_left 1
   obtain ⟨k2, bv2, vs, s2, q1, q2, q3, hm⟩ := q9
   rotate_right 1
   rotate_left
   · exact EX.cons <| EX.ret <| EV.name (hm.get (by rfl)) ⟨Dr, vs, k2, bv2, rfl, s2, hDr, nDr, q1, q2, q3⟩
   have hm : Has (mset m2 "place" (I p)) (("place", I p) :: names) := ⟨mset_self .., hm.set⟩
   generalize mset m2 "place" (I p) = m3 at *
   let names2 : List (Str × Value) := ("place", I p) :: names
   have u2 := s2.up; have l2 := s2.le
   have hM2 := hM.mono h nlw s2
   refine EX.cons <| EX.set <| EV.int ?_
   let INV : Nat → AH → Ms → Prop := fun i H' m' => ∃ k' bv' o, Step x k2 bv2 H2 k' bv' H' (2 * i) ∧ m' "net" = some (I o) ∧ 0 ≤ o ∧ o < k' ∧
     (∀ r, bv' o r = (List.range i).any fun t => bv (hs.getD t 0) r && bv (wd ws t p) r) ∧ Has m' names2
   refine EX.cons <| EX.forR G (by rfl) hA.1 <| EV.len G (by rfl) <| EV.name (hm.set.get (by rfl)) ⟨lw, _, rfl, hM2.1, by simp; (exact om194 hl hwl), ws.length, INV, by simp, by (exact om195 hl hwl),
     ⟨k2, bv2, 0, Step.refl s2.st (Int.le_refl 0), mset_self .., by decide, by (exact om152 hw hz hk2 hp q2 u2 l2), fun r => by rw [s2.st.b0]; rfl, hm.set⟩, fun i H3 m4 hi q9 => ?_, fun H3 m4 q9 => ?_⟩
   obtain ⟨k3, bv3, o, s3, r1, r2, r3, r4, hm⟩ := q9
   rotate_left 1
   obtain ⟨k3, bv3, o, s3, r1, r2, r3, r4, hm⟩ := q9
   rotate_right 1
   · have s23 := s2.trans s3
     have hM3 := hM.mono h nlw s23
     have u3 := s3.up; have l3 := s3.le
     have hnet : mset m4 "turn" (I i) "net" = some (I o) := r1
     have hm : Has (mset m4 "turn" (I i)) (("turn", I i) :: names2) := ⟨mset_self .., hm.set⟩
     generalize mset m4 "turn" (I i) = m5 at *
     obtain ⟨b, hb1, hb2, hbm, hgd⟩ := atI (ns := hs) (i := i) (by (exact om196 hl hi))
     have rb := hh b hbm
     obtain ⟨q, hq0, hq1, hq2, hq3, hq4, hq5, hq6⟩ := hM3.get hi
     have rq := (hM.2 q (List.mem_of_getElem? hq0)).2.2.2
     obtain ⟨a, ha1, ha2, ham, hga⟩ := atI (ns := q.2) (i := p) (by (exact om197 hp q2 hq4))
     have ra := rq a ham
     have hlh3 := h.lst s23.fr hlh nlh
     refine EX.cons <| EX.set <| EV.meth G <| EV.name (hm.get (by rfl)) ⟨_, _, _, _, _, 5, rfl, clsG, s3.st.hg, s3.st.hdg, by rfl, by rfl, by rfl, by rfl, hA.le (by decide), EVs.cons <| EV.name hnet <| EVs.cons <|
       EV.meth G <| EV.name (hm.get (by rfl)) ⟨_, _, _, _, _, 5, rfl, clsG, s3.st.hg, s3.st.hdg, by rfl, by rfl, by rfl, by rfl, hA.le (by decide), EVs.cons <| EV.item <| EV.name (hm.get (by rfl)) <| EV.name (hm.get (by rfl))
         ⟨_, _, _, _, rfl, rfl, hlh3, by (exact om114), by (exact om198 hl hwl hi), hb2, EVs.cons <| EV.item <| EV.item <| EV.name (hm.get (by rfl)) <| EV.name (hm.get (by rfl)) ⟨_, _, _, _, rfl, rfl, hM3.1, by (exact om114), by (exact om198 hl hwl hi), hq1, EV.name (hm.get (by rfl)) ⟨_, _, _, _, rfl, rfl, hq2, by (exact om199 q2), by (exact om200 hw hp q2 hq4), ha2,
           EVs.nil <| (both_ok G s3.st ⟨rb.1, by (exact om201 hl hwl l2 hi u3 l3 rb)⟩ ⟨ra.1, by (exact om201 hl hwl l2 hi u3 l3 ra)⟩ (by (exact om202 hl hwl hw hz hk2 hp q2 u2 hi u3 l3 hq4))).mono fun r H4 qq => EVs.nil ?_⟩⟩⟩⟩⟩
     obtain ⟨o2, k4, bv4, rfl, s4, o20, o21, o22⟩ := qq
     have u4 := s4.up; have l4 := s4.le
     refine (either_ok G s4.st ⟨r2, by (exact om160 r3 u4 l4)⟩ ⟨o20, o21⟩ (by (exact om203 hl hwl hw hz hk2 hp q2 u2 hi u3 l3 hq4 u4 l4))).mono fun r H5 qq => ?_
     obtain ⟨o3, k5, bv5, rfl, s5, o30, o31, o32⟩ := qq
     refine EX.nil ⟨rfl, k5, bv5, o3, ((s3.trans s4).trans s5).sp (by push_cast; (exact om162)), mset_self .., o30, o31, fun r => ?_, hm.2.set⟩
     rw [o32]; (try dsimp only); rw [s4.old _ _ r3, r4, o22]; (try dsimp only)
     rw [any_range_succ, hgd, hq6, hga, s23.old b r rb.2, s23.old a r ra.2]
   · have hDr3 := s2.st.lst s3.fr q1 nDr
     refine EX.cons <| EX.expr <| EV.append <| EV.name (hm.get (by rfl)) ⟨_, _, rfl, hDr3, EV.name r1 ⟨_, hDr3, by simp; (exact om163 hw hp q2), (fun _ e => nomatch e), EX.nil ⟨rfl, k3, bv3, vs ++ [o], ?_, by rw [upd_self]; simp, by simp [q2], (q3.mono s3).push r2 r3 fun r => ?_, hm.2⟩⟩⟩
     · exact ((s2.trans s3).setL hDr hDr3 nDr).sp (by push_cast; (exact om204 hl hwl))
     · rw [r4, q2]

 have writew_ok : ∀ {c : Cx} {H : AH} {x : Ad} {k : Int} {bv : BV} (G : Gl c ((Mine.main.heap_1_39 c.w.params))) (h : ST x k bv H) {lw lh ld : Addr} {ws : WL} {hs ds : List Int} {en : Int} {w : Nat} (hM : MemAt x k H lw ws w) (nlw : lw ≠ x.lc) (hlh : H lh = some (.list (hs.map I))) (nlh : lh ≠ x.lc) (hh : ∀ a ∈ hs, 0 ≤ a ∧ a < k) (hld : H ld = some (.list (ds.map I))) (nld : ld ≠ x.lc) (hd : ∀ a ∈ ds, 0 ≤ a ∧ a < k) (hdl : ds.length = w) (he : 0 ≤ en ∧ en < k) (hl : hs.length = ws.length) (hwl : ws.length ≤ 4) (hw : 1 ≤ w ∧ w ≤ 2) (hz : k ≤ 10000), FN c 8 (.ref 71) [Rf x.g, Rf lw, Rf lh, Rf ld, I en] H (fun r H' => ∃ D ws' k' bv', r = Rf D ∧ Step x k bv H k' bv' H' 20 ∧ H D = none ∧ D ≠ x.lc ∧ MemAt x k' H' D ws' w ∧ ws'.length = ws.length ∧
      ∀ t p r, t < ws.length → p < w → bv' (wd ws' t p) r = if bv (hs.getD t 0) r && bv en r then bv (ds.getD p 0) r else bv (wd ws t p) r) := by
  as_aux_lemma =>
   intro c H x k bv G h lw lh ld ws hs ds en w hM nlw hlh nlh hh hld nld hd hdl he hl hwl hw hz
   have hk2 := h.kpos
   refine FN.def G (f := 71) (by rfl) (by rfl) (names := ["g", "words", "hits", "data", "enable"]) (by rfl) (len5 fun _ _ _ _ _ => by rfl) (fun L => List.all_eq_true.mp (by rfl)) fun A L hA => ?_
   refine EX.cons <| EX.set <| EV.list (by simp) <| EVs.nil ⟨by simp, fun Dr hDr => ?_⟩
   have nDr := (h.newne hDr).1
   have s1 := (Step.refl h (Int.le_refl 0)).alloc hDr (.list [])
   have hDr' : upd H Dr (.list []) Dr = some (.list []) := upd_self ..
   generalize upd H Dr (.list []) = H1 at *
   let names : List (Str × Value) := [("g", Rf x.g), ("words", Rf lw), ("hits", Rf lh), ("data", Rf ld), ("enable", I en), ("result", Rf Dr)]
   refine EX.cons <| EX.forR G (by rfl) hA.1 <| EV.len G (by rfl) <| EV.name (by rfl) ⟨lw, _, rfl, (hM.mono h nlw s1).1, by simp; (exact om194 hl hwl), ws.length, fun i H' m' => ∃ k' bv' vs, Step x k bv H k' bv' H' (5 * i) ∧ MemAt x k' H' Dr vs w ∧ vs.length = i ∧
     (∀ q ∈ vs, q.1 ≠ Dr) ∧ (∀ t p r, t < i → p < w → bv' (wd vs t p) r = if bv (hs.getD t 0) r && bv en r then bv (ds.getD p 0) r else bv (wd ws t p) r) ∧ Has m' names, by simp, by (exact om195 hl hwl), ⟨k, bv, [], s1.sp (by (exact om205)), ⟨hDr', fun q hq => nomatch hq⟩, rfl, (fun q hq => nomatch hq), (fun t p r ht => absurd ht (Nat.not_lt_zero _)), rfl, rfl, rfl, rfl, rfl, rfl, trivial⟩,
       fun i H2 m2 hi q9 => ?_, fun H2 m2 q9 => ?_⟩
   obtain ⟨k2, bv2, vs, s2, q1, q2, q2', q3, hm⟩ := q9
   rotate_left 1
   obtain ⟨k2, bv2, vs, s2, q1, q2, q2', q3, hm⟩ := q9
   rotate_right 1
   rotate_left
   · exact EX.cons <| EX.ret <| EV.name (hm.get (by rfl)) ⟨Dr, vs, k2, bv2, rfl, s2.sp (by (exact om206 hl hwl q2)), hDr, nDr, q1, q2, q3⟩
   have hm : Has (mset m2 "turn" (I i)) (("turn", I i) :: names) := ⟨mset_self .., hm.set⟩
   generalize mset m2 "turn" (I i) = m3 at *
   have u2 := s2.up; have l2 := s2.le
   obtain ⟨b, hb1, hb2, hbm, hgd⟩ := atI (ns := hs) (i := i) (by (exact om207 hl hi q2))
   have rb := hh b hbm
   have hlh2 := h.lst s2.fr hlh nlh
   refine EX.cons <| EX.set <| EV.meth G <| EV.name (hm.get (by rfl)) ⟨_, _, _, _, _, 5, rfl, clsG, s2.st.hg, s2.st.hdg, by rfl, by rfl, by rfl, by rfl, hA.le (by decide), EVs.cons <| EV.item <| EV.name (hm.get (by rfl)) <| EV.name (hm.get (by rfl))
     ⟨_, _, _, _, rfl, rfl, hlh2, by (exact om199 q2), by (exact om208 hl hwl hi q2), hb2, EVs.cons <| EV.name (hm.get (by rfl)) <| EVs.nil <| (both_ok G s2.st ⟨rb.1, by (exact om209 hl hwl hi q2 u2 l2 rb)⟩ ⟨he.1, by (exact om88 he l2)⟩ (by (exact om210 hl hwl hz hk2 hi q2 u2 l2))).mono fun r H3 qq => ?_⟩⟩
   obtain ⟨o, k3, bv3, rfl, s3, o0, o1, o2⟩ := qq
   have hwn : ∀ r, bv3 o r = (bv (hs.getD i 0) r && bv en r) := fun r => by rw [o2]; (try dsimp only); rw [s2.old _ _ rb.2, s2.old _ _ he.2, hgd]
   have u3 := s3.up; have l3 := s3.le
   have hm : Has (mset m3 "wanted" (I o)) (("wanted", I o) :: ("turn", I i) :: names) := ⟨mset_self .., hm.set⟩
   generalize mset m3 "wanted" (I o) = m4 at *
   have s23 := s2.trans s3
   have hM3 := hM.mono h nlw s23
   obtain ⟨q, hq0, hq1, hq2, hq3, hq4, hq5, hq6⟩ := hM3.get hi
   have rq := (hM.2 q (List.mem_of_getElem? hq0)).2.2.2
   have hq2' := (hM.2 q (List.mem_of_getElem? hq0)).1
   refine EX.cons <| EX.set <| EV.item <| EV.name (hm.get (by rfl)) <| EV.name (hm.get (by rfl)) ⟨_, _, _, _, rfl, rfl, hM3.1, by (exact om199 q2), by (exact om208 hl hwl hi q2), hq1, ?_⟩
   have hm : Has (mset m4 "old" (Rf q.1)) (("old", Rf q.1) :: ("wanted", I o) :: ("turn", I i) :: names) := ⟨mset_self .., hm.set⟩
   generalize mset m4 "old" (Rf q.1) = m5 at *
   have q1' := q1.mono s2.st nDr s3
   have hg5 : m5 "g" = some (Rf x.g) := hm.get (by rfl)
   have hwa5 : m5 "wanted" = some (I o) := hm.get (by rfl)
   have hol5 : m5 "old" = some (Rf q.1) := hm.get (by rfl)
   have hda5 : m5 "data" = some (Rf ld) := hm.get (by rfl)
   refine EX.cons <| EX.expr <| EV.append <| EV.name (hm.get (by rfl)) ⟨_, _, rfl, q1'.1, EV.compR G (by rfl) hA.1 <| EV.len G (by rfl) <| EV.name (hm.get (by rfl)) ⟨q.1, _, rfl, hq2, by simp; (exact om211 hw hq4), w, fun p ys H' => ∃ k' bv' us, Step x k3 bv3 H3 k' bv' H' (2 * p) ∧ ys = us.map I ∧ us.length = p ∧
     Sp k' bv' us (fun p r => if bv (hs.getD i 0) r && bv en r then bv (ds.getD p 0) r else bv (wd ws i p) r), by simp [hq4], by (exact om212 hw hq4), fun p ys H' ⟨k', bv', us, s', e1, e2, e3⟩ => by rw [e1]; simpa using e2, ⟨k3, bv3, [], Step.refl s3.st (Int.le_refl 0), rfl, rfl, Sp.nil⟩,
     fun C cl p ys H4 hp q9 => ?_, fun ys H4 D q9 hD => ?_⟩⟩
   obtain ⟨k4, bv4, us, s4, e1, e2, e3⟩ := q9
   rotate_left 1
   obtain ⟨k4, bv4, us, s4, e1, e2, e3⟩ := q9
   rotate_right 1
   · have s234 := s23.trans s4
     have u4 := s4.up; have l4 := s4.le
     have hq24 := h.lst s234.fr hq2' hq3
     have hld4 := h.lst s234.fr hld nld
     obtain ⟨a, ha1, ha2, ham, hga⟩ := atI (ns := q.2) (i := p) (by (exact om207 hq4 hp e2))
     have ra := rq a ham
     obtain ⟨d, hd1, hd2, hdm, hgdd⟩ := atI (ns := ds) (i := p) (by (exact om213 hdl hq4 hp e2))
     have rd := hd d hdm
     refine EV.meth G <| EV.name hg5 ⟨_, _, _, _, _, 6, rfl, clsG, s4.st.hg, s4.st.hdg, by rfl, by rfl, by rfl, by rfl, hA.le (by decide), EVs.cons <| EV.name hwa5 <| EVs.cons <| EV.item <| EV.name hol5 <| EV.name (by rfl) ⟨_, _, _, _, rfl, rfl, hq24, by (exact om199 e2), by (exact om214 hw hq4 hp e2), ha2,
       EVs.cons <| EV.item <| EV.name hda5 <| EV.name (by rfl) ⟨_, _, _, _, rfl, rfl, hld4, by (exact om199 e2), by (exact om214 hw hq4 hp e2), hd2, EVs.nil <| (mux_ok G s4.st ⟨o0, by (exact om61 o1 l4)⟩ ⟨ra.1, by (exact om215 hl hwl hw hi q2 u2 l2 u3 l3 hq4 hp e2 u4 l4 ra)⟩ ⟨rd.1, by (exact om215 hl hwl hw hi q2 u2 l2 u3 l3 hq4 hp e2 u4 l4 rd)⟩ (by (exact om216 hl hwl hw hz hk2 hi q2 u2 l2 u3 l3 hq4 hp e2 u4 l4))).mono fun r H5 qq => ?_⟩⟩⟩
     obtain ⟨o3, k5, bv5, rfl, s5, o30, o31, o32⟩ := qq
     refine ⟨k5, bv5, us ++ [o3], (s4.trans s5).sp (by push_cast; (exact om217)), by rw [e1]; simp, by simp [e2], (e3.mono s5).push o30 o31 fun r => ?_⟩
     rw [o32]; (try dsimp only)
     rw [s4.old _ _ o1, hwn, s234.old _ _ ra.2, s234.old _ _ rd.2, e2, hq6, hga, hgdd]
   · subst e1
     have s234 := s23.trans s4
     have q14 := q1'.mono s3.st nDr s4
     have nD := (s4.st.newne hD).1
     have h0D := s234.none hD
     have neD : D ≠ Dr := by rintro rfl; rw [q14.1] at hD; cases hD
     have q15 := q14.mono s4.st nDr ((Step.refl s4.st (Int.le_refl 0)).alloc hD (.list (us.map I)))
     have s5 := s234.alloc hD (.list (us.map I))
     have hself : upd H4 D (.list (us.map I)) D = some (.list (us.map I)) := upd_self ..
     have q0 := fun p hp => (q14.2 p hp).1
     generalize upd H4 D (.list (us.map I)) = H5 at *
     refine ⟨_, q15.1, by simp; (exact om218 hl hwl hi q2), (fun _ e => nomatch e), EX.nil ⟨rfl, k4, bv4, vs ++ [(D, us)], (s5.setL hDr q15.1 nDr).sp (by push_cast; (exact om219 hw hq4 e2)), ⟨by rw [upd_self]; simp, fun p hp => ?_⟩, by simp [q2], fun p hp => ?_, fun t p r ht hp => ?_, hm.2.2.2⟩⟩
     · rcases List.mem_append.mp hp with hp | hp
       · obtain ⟨a1, a2, a3, a4⟩ := q15.2 p hp
         exact ⟨by rw [upd_ne _ _ (q2' p hp)]; exact a1, a2, a3, a4⟩
       · cases List.mem_singleton.mp hp
         refine ⟨by rw [upd_ne _ _ neD]; exact hself, nD, e2, fun a ha => ?_⟩
         obtain ⟨j, hj⟩ := List.mem_iff_getElem?.mp ha
         obtain ⟨z1, z2, _⟩ := e3 j a hj
         exact ⟨z1, z2⟩
     · rcases List.mem_append.mp hp with hp | hp
       · exact q2' p hp
       · cases List.mem_singleton.mp hp; exact neD
     · by_cases z : t < i
       · obtain ⟨p', hp0, _, _, _, hp4, hp5, hp6⟩ := q1.get (t := t) (by (exact om196 q2 z))
         have : wd (vs ++ [(D, us)]) t p = wd vs t p := by unfold wd; rw [List.getElem?_append_left (by (exact om196 q2 z))]
         obtain ⟨a, ha1, _, ham, hga⟩ := atI (ns := p'.2) (i := p) (by (exact om220 hq4 e2 hp hp4))
         have hka := (hp5 a ham).2
         rw [this, ← q3 t p r z hp, hp6, hga, s4.old _ _ (by (exact om221 u3 l3 hka)), s3.old _ _ hka]
       · have : t = i := by (exact om222 q2 ht z)
         subst this
         have : wd (vs ++ [(D, us)]) t p = us.getD p 0 := by unfold wd; rw [List.getElem?_append_right (by (exact om223 q2)), show t - vs.length = 0 by (exact om224 q2)]; rfl
         obtain ⟨a, ha1, _, ham, hga⟩ := atI (ns := us) (i := p) (by (exact om225 hq4 e2 hp))
         rw [this, hga]
         exact (e3 p a ha1).2.2 r

 have pick_ok : ∀ {c : Cx} {H : AH} (G : Gl c ((Mine.main.heap_1_39 c.w.params))) {hd cl : Addr} {ns : List Int} {limit : Int} (h : HS H hd cl ns) (hl : 0 < limit ∧ limit ≤ 100), FN c 1 (.ref 232) [Rf hd, I limit] H (fun r H' => ∃ d o, r = I d ∧ 0 ≤ d ∧ d < limit ∧ H' = upd H hd o ∧ HS H' hd cl ns) := by
  as_aux_lemma =>
   intro c H G hd cl ns limit h hl
   have hne := h.ne
   obtain ⟨p, q, s, h1, hp0, hp1, hs0, hs1, h2, hn⟩ := h
   have fin : ∀ p q s : Int, 0 ≤ p → p ≤ ns.length → 0 ≤ s → s < 2 ^ 40 → HS (upd H hd (hnd cl p q s)) hd cl ns := fun p q s a b d e => ⟨p, q, s, upd_self .., a, b, d, e, by rw [upd_ne _ _ (Ne.symm hne)]; exact h2, hn⟩
   refine FN.def G (f := 232) (by rfl) (by rfl) (names := ["hand", "limit"]) (by rfl) (len2 fun _ _ => by rfl) (fun L => List.all_eq_true.mp (by rfl)) fun A L hA => ?_
   refine EX.cons <| EX.mono (Q := fun f H' m' => (f = .next ∧ (∃ p q : Int, 0 ≤ p ∧ p ≤ ns.length ∧ H' = upd H hd (hnd cl p q s)) ∧ Has m' [("hand", Rf hd), ("limit", I limit)]) ∨ (∃ v, f = .ret v ∧ ∃ d o, v = I d ∧ 0 ≤ d ∧ d < limit ∧ H' = upd H hd o ∧ HS H' hd cl ns)) ?_ ?_
   · refine EX.ite <| IT.cmp <| EV.item <| EV.name (by rfl) <| EV.int ⟨hd, _, 2, _, rfl, rfl, h1, by decide, by decide, rfl, EV.int ⟨_, CO.eq, ite_intro (fun e => ?_) (fun e => EX.nil (.inl ⟨rfl, ⟨p, q, hp0, hp1, (upd_same h1).symm⟩, rfl, rfl, trivial⟩))⟩⟩
     refine EX.cons <| EX.ite <| IT.cmp <| EV.item <| EV.name (by rfl) <| EV.int ⟨hd, _, 1, _, rfl, rfl, h1, by decide, by decide, rfl, EV.len G (by rfl) <| EV.item <| EV.name (by rfl) <| EV.int ⟨hd, _, 0, _, rfl, rfl, h1, by decide, by decide, rfl, cl, _, rfl, h2, by simp; (exact om226 hn), _, CO.eq,
       ite_intro (fun e => ?_) (fun e => EX.nil ?_)⟩⟩
     · refine EX.cons <| EX.setitem <| EV.bin <| EV.bin <| EV.item <| EV.name (by rfl) <| EV.int ⟨hd, _, 3, _, rfl, rfl, h1, by decide, by decide, rfl, EV.int ⟨_, BO.mul (by omega), EV.int ⟨_, BO.mod (by decide), EV.name (by rfl) <| EV.int ⟨hd, _, 3, rfl, rfl, h1, by decide, by decide, (show (3 : Int) < 4 by decide), ?_⟩⟩⟩⟩
       have ⟨e1, e2⟩ := fmod_rng (a := s * 48271) (b := 2147483647) (by decide)
       refine EX.cons <| EX.ret <| EV.bin <| EV.bin <| EV.item <| EV.name (by rfl) <| EV.int ⟨hd, _, 3, _, rfl, rfl, upd_self .., by decide, by decide, rfl, EV.int ⟨_, BO.floordiv (by decide) (by decide), EV.name (by rfl) ⟨_, BO.mod (by (exact om227 hl)), .inr ⟨_, rfl, _, _, rfl, (fmod_rng hl.1).1, (fmod_rng hl.1).2, rfl, ?_⟩⟩⟩⟩
       exact fin p q _ hp0 hp1 e1 (by (exact om228 e1 e2))
     · have e := of_decide_eq_false e
       rw [List.length_map] at e
       obtain ⟨number, hn1, hn2, _, _⟩ := atI (ns := ns) (i := p.toNat) (by (exact om229 hp0 hp1 hn e))
       rw [show ((p.toNat : Nat) : Int) = p by (exact om230 hp0)] at hn2
       refine EX.cons <| EX.set <| EV.item <| EV.item <| EV.name (by rfl) <| EV.int ⟨hd, _, 0, _, rfl, rfl, h1, by decide, by decide, rfl, EV.item <| EV.name (by rfl) <| EV.int ⟨hd, _, 1, _, rfl, rfl, h1, by decide, by decide, rfl, cl, _, _, _, rfl, rfl, h2, hp0, by (exact om231 hp1 hn), hn2, ?_⟩⟩
       refine EX.cons <| EX.setitem <| EV.bin <| EV.item <| EV.name (by rfl) <| EV.int ⟨hd, _, 1, _, rfl, rfl, h1, by decide, by decide, rfl, EV.int ⟨_, BO.add, EV.name (by rfl) <| EV.int ⟨hd, _, 1, rfl, rfl, h1, by decide, by decide, (show (1 : Int) < 4 by decide), ?_⟩⟩⟩
       have fin2 : ∀ r, (upd (upd H hd (.list (([Rf cl, I p, I q, I s] : List Value).set (1 : Int).toNat (I (p + 1))))) hd (.list (([Rf cl, I (p + 1), I q, I s] : List Value).set (2 : Int).toNat (I r)))) = upd H hd (hnd cl (p + 1) r s) := fun r => upd_upd ..
       refine EX.cons <| EX.setitem <| EV.ifexp <| IT.cmp <| EV.name (by rfl) <| EV.int ⟨_, CO.ge, ite_intro (fun e => EV.name (by rfl) ?_) (fun e => EV.neg <| EV.name (by rfl) ⟨_, rfl, ?_⟩)⟩
       · exact EV.name (by rfl) <| EV.int ⟨hd, _, 2, rfl, rfl, upd_self .., by decide, by decide, (show (2 : Int) < 4 by decide), EX.nil (.inl ⟨rfl, ⟨p + 1, _, by (exact om232 hp0), by (exact om233 hp1 (by assumption)), fin2 _⟩, rfl, rfl, trivial⟩)⟩
       · exact EV.name (by rfl) <| EV.int ⟨hd, _, 2, rfl, rfl, upd_self .., by decide, by decide, (show (2 : Int) < 4 by decide), EX.nil (.inl ⟨rfl, ⟨p + 1, _, by (exact om232 hp0), by (exact om233 hp1 (by assumption)), fin2 _⟩, rfl, rfl, trivial⟩)⟩
   · rintro f H' m' (⟨rfl, ⟨p, q, a, b, rfl⟩, hm⟩ | ⟨v, rfl, post⟩)
     · refine EX.cons <| EX.set <| EV.bin <| EV.item <| EV.name (hm.get (by rfl)) <| EV.int ⟨hd, _, 2, _, rfl, rfl, upd_self .., by decide, by decide, rfl, EV.name (hm.get (by rfl)) ⟨_, BO.mod (by (exact om227 hl)), ?_⟩⟩
       have hdg : mset m' "digit" (I (q.fmod limit)) "digit" = some (I (q.fmod limit)) := mset_self ..
       have hm := hm.set (x := "digit") (v := I (q.fmod limit))
       refine EX.cons <| EX.setitem <| EV.bin <| EV.item <| EV.name (hm.get (by rfl)) <| EV.int ⟨hd, _, 2, _, rfl, rfl, upd_self .., by decide, by decide, rfl, EV.name (hm.get (by rfl)) ⟨_, BO.floordiv (by (exact om227 hl)) (by omega), EV.name (hm.get (by rfl)) <| EV.int ⟨hd, _, 2, rfl, rfl, upd_self .., by decide, by decide, (show (2 : Int) < 4 by decide), ?_⟩⟩⟩
       refine EX.cons <| EX.ret <| EV.name hdg ⟨_, hnd cl p (q.fdiv limit) s, rfl, (fmod_rng hl.1).1, (fmod_rng hl.1).2, upd_upd .., ?_⟩
       rw [upd_upd]
       exact fin p _ s a b hs0 hs1
     · exact post

 have some_ok : ∀ {c : Cx} {H : AH} (G : Gl c ((Mine.main.heap_1_39 c.w.params))) {hd cl lp : Addr} {ns ps : List Int} {w : Nat} (h : HS H hd cl ns) (hlp : H lp = some (.list (ps.map I))) (nlp : lp ≠ hd) (hpl : 1 ≤ ps.length ∧ ps.length ≤ 10) (hw : w ≤ 10), FN c 2 (.ref 261) [Rf hd, Rf lp, I w] H (fun r H' => ∃ (D : Addr) (us : List Int) (o : AObj), r = Rf D ∧ H' = upd (upd H hd o) D (.list (us.map I)) ∧ H D = none ∧ D ≠ hd ∧ us.length = w ∧ (∀ a ∈ us, a ∈ ps ∨ a = 0 ∨ a = 1) ∧ HS H' hd cl ns) := by
  as_aux_lemma =>
   intro c H G hd cl lp ns ps w h hlp nlp hpl hw
   obtain ⟨p, q, s, h1, hrest⟩ := h
   refine FN.def G (f := 261) (by rfl) (by rfl) (names := ["hand", "pool", "wide"]) (by rfl) (len3 fun _ _ _ => by rfl) (fun L => List.all_eq_true.mp (by rfl)) fun A L hA => ?_
   refine EX.cons <| EX.ret <| EV.compR G (by rfl) hA.1 <| EV.name (by rfl) ⟨w, fun i ys H' => ∃ (us : List Int) (o : AObj), ys = us.map I ∧ us.length = i ∧ (∀ a ∈ us, a ∈ ps ∨ a = 0 ∨ a = 1) ∧ H' = upd H hd o ∧ HS H' hd cl ns, rfl, by (exact om172 hw), fun i ys H' ⟨us, o, e1, e2, _⟩ => by rw [e1]; simpa using e2,
     ⟨[], _, rfl, rfl, (fun a ha => nomatch ha), (upd_same h1).symm, ⟨p, q, s, h1, hrest⟩⟩, fun C cl' i ys H1 hi q9 => ?_, fun ys H1 D q9 hD => ?_⟩
   obtain ⟨us, o, e1, e2, e3, e4, e5⟩ := q9
   rotate_left 1
   obtain ⟨us, o, e1, e2, e3, e4, e5⟩ := q9
   rotate_right 1
   · refine EV.ifexp <| IT.cmp <| EV.callF G (by rfl) (by rfl) hA <| EVs.cons <| EV.name (by rfl) <| EVs.cons <| EV.int <| EVs.nil <| (pick_ok G e5 (limit := 4) (by decide)).mono fun r H2 q9 => ?_
     obtain ⟨d, o2, z1, z2, z3, z4, z5⟩ := q9
     subst z1
     have z6 : H2 = upd H hd o2 := by rw [z4, e4, upd_upd]
     refine EV.int ⟨_, CO.lt, ite_intro (fun e => ?_) (fun e => ?_)⟩
     · have hlp2 : H2 lp = some (.list (ps.map I)) := by rw [z6, upd_ne _ _ nlp]; exact hlp
       refine EV.item <| EV.name (by rfl) <| EV.callF G (by rfl) (by rfl) hA <| EVs.cons <| EV.name (by rfl) <| EVs.cons <| EV.len G (by rfl) <| EV.name (by rfl) ⟨lp, _, rfl, hlp2, by simp; (exact om248 hpl), EVs.nil <| (pick_ok G z5 (by simp; (exact om249 hpl))).mono fun r H3 q9 => ?_⟩
       obtain ⟨d3, o3, y1, y2, y3, y4, y5⟩ := q9
       subst y1
       rw [List.length_map] at y3
       have y6 : H3 = upd H hd o3 := by rw [y4, z6, upd_upd]
       obtain ⟨a, ha1, ha2, ham, _⟩ := atI (ns := ps) (i := d3.toNat) (by (exact om250 hpl y3))
       rw [show ((d3.toNat : Nat) : Int) = d3 by (exact om230 y2)] at ha2
       refine ⟨_, _, _, _, rfl, rfl, by rw [y6, upd_ne _ _ nlp]; exact hlp, y2, by (exact om251 hpl y3), ha2, us ++ [a], o3, by rw [e1]; simp, by simp [e2], fun b hb => ?_, y6, y5⟩
       rcases List.mem_append.mp hb with hb | hb
       · exact e3 b hb
       · cases List.mem_singleton.mp hb; exact .inl ham
     · refine EV.callF G (by rfl) (by rfl) hA <| EVs.cons <| EV.name (by rfl) <| EVs.cons <| EV.int <| EVs.nil <| (pick_ok G z5 (limit := 2) (by decide)).mono fun r H3 q9 => ?_
       obtain ⟨d3, o3, y1, y2, y3, y4, y5⟩ := q9
       subst y1
       have y6 : H3 = upd H hd o3 := by rw [y4, z6, upd_upd]
       refine ⟨us ++ [d3], o3, by rw [e1]; simp, by simp [e2], fun b hb => ?_, y6, y5⟩
       rcases List.mem_append.mp hb with hb | hb
       · exact e3 b hb
       · cases List.mem_singleton.mp hb; (exact om252 y2 y3)
   · have hDhd : D ≠ hd := by rintro rfl; rw [e4, upd_self] at hD; cases hD
     have hD0 : H D = none := by rw [e4, upd_ne _ _ hDhd] at hD; exact hD
     refine ⟨D, us, o, rfl, by rw [e1, e4], hD0, hDhd, e2, e3, ?_⟩
     obtain ⟨p, q, s, h1, a1, a2, a3, a4, a5, a6⟩ := e5
     refine ⟨p, q, s, by rw [upd_ne _ _ (Ne.symm hDhd)]; exact h1, a1, a2, a3, a4, ?_, a6⟩
     rw [upd_ne]; exact a5
     rintro rfl; rw [a5] at hD; cases hD

 have table_ok : ∀ {c : Cx} {H : AH} (G : Gl c ((Mine.main.heap_1_39 c.w.params))) {kind : Str} {n : Nat} (hk : kindOK kind n), FN c 1 (.ref 239) [S kind, .none] H (fun r H' => r = I (tab kind : Nat) ∧ ∃ D o, H D = none ∧ H' = upd H D o) := by
  as_aux_lemma =>
   intro c H G kind n hk
   have k1 : (kind == "lut") = false := by rcases hk with ⟨rfl, _⟩ | ⟨rfl, _⟩ | ⟨rfl, _⟩ | ⟨rfl, _⟩ | ⟨rfl, _⟩ <;> decide
   have k2 : (kind == "cell") = false := by rcases hk with ⟨rfl, _⟩ | ⟨rfl, _⟩ | ⟨rfl, _⟩ | ⟨rfl, _⟩ | ⟨rfl, _⟩ <;> decide
   refine FN.def G (f := 239) (by rfl) (by rfl) (names := ["kind", "param"]) (by rfl) (len2 fun _ _ => by rfl) (fun L => List.all_eq_true.mp (by rfl)) fun A L hA => ?_
   refine EX.cons <| EX.ite <| IT.cmp <| EV.name (by rfl) <| EV.str ⟨_, CO.eqS, ite_intro (fun e => absurd e (by rw [k1]; decide)) (fun _ => EX.nil ?_)⟩
   refine EX.cons <| EX.ite <| IT.cmp <| EV.name (by rfl) <| EV.str ⟨_, CO.eqS, ite_intro (fun e => absurd e (by rw [k2]; decide)) (fun _ => EX.nil ?_)⟩
   refine EX.cons ?_
   refine EX.ret ?_
   refine EV.itemS ?_
   refine EV.dictS (hall := ?_) (hl := ?_) (h0 := ?_) (hlen := ?_) ?_
   · rfl
   · rfl
   · exact List.cons_ne_nil _ _
   · exact Nat.le_of_ble_eq_true rfl
   refine EPs.cons <| EV.str <| EV.int ?_
   refine EPs.cons <| EV.str <| EV.int ?_
   refine EPs.cons <| EV.str <| EV.int ?_
   refine EPs.cons <| EV.str <| EV.int ?_
   refine EPs.cons <| EV.str <| EV.int ?_
   refine EPs.cons <| EV.str <| EV.int ?_
   refine EPs.cons <| EV.str <| EV.int ?_
   refine EPs.cons <| EV.str <| EV.int ?_
   refine EPs.cons <| EV.str <| EV.int ?_
   refine EPs.nil ?_
   refine ⟨tabKvs, rfl, tabKvs_nd, fun D hD => ?_⟩
   refine EV.name (v := S kind) (by rfl) ?_
   refine ⟨_, tabKvs, kind, _, rfl, rfl, upd_self .., tabKvs_at hk, ?_⟩
   exact ⟨rfl, D, _, hD, rfl⟩

 have word_ok : ∀ {c : Cx} {H : AH} (G : Gl c ((Mine.main.heap_1_39 c.w.params))) {lw : Addr} {ws : List Nat} {table R : Nat} (hlw : H lw = some (.list (ws.map IN))) (hwl : ws.length ≤ 3) (hws : ∀ w ∈ ws, w < 2 ^ R) (hR : R ≤ 40), FN c 1 (.ref 246) [IN table, Rf lw, IN (2 ^ R - 1)] H (fun r H' => H' = H ∧ ∃ t : Nat, r = IN t ∧ t < 2 ^ R ∧ ∀ r < R, t.testBit r = table.testBit (idx (ws.map (·.testBit r)))) := by
  as_aux_lemma =>
   intro c H G lw ws table R hlw hwl hws hR
   refine FN.def G (f := 246) (by rfl) (by rfl) (names := ["table", "words", "full"]) (by rfl) (len3 fun _ _ _ => by rfl) (fun L => List.all_eq_true.mp (by rfl)) fun A L hA => ?_
   have hlen : ∀ r, (ws.map (·.testBit r)).length = ws.length := fun r => by simp
   refine EX.cons <| EX.set <| EV.int ?_
   let names : List (Str × Value) := [("table", IN table), ("words", Rf lw), ("full", IN (2 ^ R - 1))]
   refine EX.cons <| EX.forR G (by rfl) hA.1 <| EV.bin <| EV.int <| EV.len G (by rfl) <| EV.name (by rfl) ⟨lw, _, rfl, hlw, by simp; (exact om254 hwl), _, BO.pow (by (exact om114)) (by simp; (exact om255 hwl)) (by decide), 2 ^ ws.length, fun i H' m' => H' = H ∧ ∃ t : Nat, m' "total" = some (IN t) ∧ t < 2 ^ R ∧
     (∀ r < R, t.testBit r = (decide (idx (ws.map (·.testBit r)) < i) && table.testBit (idx (ws.map (·.testBit r))))) ∧ Has m' names, by rw [List.length_map, pow2_nat], ?_, ⟨rfl, 0, mset_self .., Nat.pow_pos (by decide), fun r _ => by simp, rfl, rfl, rfl, trivial⟩, fun i H1 m1 hi q9 => ?_, fun H1 m1 q9 => ?_⟩
   rotate_left 1
   obtain ⟨e1, t, ht, hlt, hb, hm⟩ := q9
   rotate_right 1
   rotate_left 2
   obtain ⟨e1, t, ht, hlt, hb, hm⟩ := q9
   rotate_right 2
   · have := Nat.pow_le_pow_right (n := 2) (by decide) hwl; (exact om256 this)
   rotate_left
   · exact EX.cons <| EX.ret <| EV.name ht ⟨e1, t, rfl, hlt, fun r hr => by
       rw [hb r hr, decide_eq_true, Bool.true_and]
       have := idx_lt (bs := ws.map (·.testBit r)); rw [hlen] at this; exact this⟩
   have e1 := e1.symm; subst e1
   have hi64 : i < 64 := by have := Nat.pow_le_pow_right (n := 2) (by decide) hwl; (exact om257 hi this)
   have hm : Has (mset m1 "row" (IN i)) (("row", IN i) :: ("total", IN t) :: names) := ⟨mset_self .., ht, hm.set⟩
   generalize mset m1 "row" (IN i) = m2 at *
   refine EX.cons <| EX.ite <| IT.cmp <| EV.bin <| EV.bin <| EV.name (hm.get (by rfl)) <| EV.bin <| EV.int <| EV.name (hm.get (by rfl)) ⟨_, BO.pow (by (exact om258 hi64)) (by (exact om259 hi64)) (by decide), _, BO.floordiv pow_ne (natAbs_pow hi64), EV.int ⟨_, BO.mod (by decide), EV.int ⟨_, CO.eq, ite_intro (fun hT => ?_) (fun hT => ?_)⟩⟩⟩
   · rw [bitv'] at hT
     refine EX.cons <| EX.set <| EV.name (hm.get (by rfl)) ?_
     refine EX.cons <| EX.forR G (by rfl) hA.1 <| EV.len G (by rfl) <| EV.name (hm.set.get (by rfl)) ⟨lw, _, rfl, hlw, by simp; (exact om254 hwl), ws.length, fun j H' m' => H' = H ∧ ∃ p : Nat, m' "part" = some (IN p) ∧ p < 2 ^ R ∧
       (∀ r < R, p.testBit r = (List.range j).all fun t => (ws.map (·.testBit r)).getD t false == i.testBit t) ∧ Has m' (("row", IN i) :: ("total", IN t) :: names), by simp, by (exact om260 hwl),
       ⟨rfl, 2 ^ R - 1, mset_self .., by have : 0 < 2 ^ R := Nat.pow_pos (by decide); (exact om261 this), fun r hr => by rw [Nat.testBit_two_pow_sub_one, decide_eq_true hr]; rfl, hm.set⟩, fun j H2 m3 hj q9 => ?_, fun H2 m3 q9 => ?_⟩
     obtain ⟨e1, p, hp, hpl, hpb, hm⟩ := q9
     rotate_left 1
     obtain ⟨e1, p, hp, hpl, hpb, hm⟩ := q9
     rotate_right 1
     · have e1 := e1.symm; subst e1
       have hm : Has (mset m3 "turn" (IN j)) (("turn", IN j) :: ("part", IN p) :: ("row", IN i) :: ("total", IN t) :: names) := ⟨mset_self .., hp, hm.set⟩
       generalize mset m3 "turn" (IN j) = m4 at *
       have hwj : ws[j]? = some ws[j] := List.getElem?_eq_getElem hj
       have hwm := hws _ (List.getElem_mem hj)
       have hitem : (ws.map IN)[((j : Nat) : Int).toNat]? = some (IN ws[j]) := by rw [Int.toNat_natCast, List.getElem?_map, hwj]; rfl
       have hgd : ∀ r, (ws.map (·.testBit r)).getD j false = ws[j].testBit r := fun r => by rw [List.getD_eq_getElem?_getD, List.getElem?_map, hwj]; rfl
       refine EX.cons <| EX.set <| EV.bin <| EV.name (hm.get (by rfl)) <| EV.ifexp <| IT.cmp <| EV.bin <| EV.bin <| EV.name (hm.get (by rfl)) <| EV.bin <| EV.int <| EV.name (hm.get (by rfl)) ⟨_, BO.pow (by (exact om262 hj)) (by (exact om263 hwl hj)) (by decide), _, BO.floordiv pow_ne (natAbs_pow (by (exact om264 hwl hj))), EV.int ⟨_, BO.mod (by decide), EV.int ⟨_, CO.eq,
         ite_intro (fun hb2 => ?_) (fun hb2 => ?_)⟩⟩⟩
       · rw [bitv'] at hb2
         refine EV.item <| EV.name (hm.get (by rfl)) <| EV.name (hm.get (by rfl)) ⟨lw, _, _, _, rfl, rfl, hlw, by (exact om262 hj), by (exact om265 hwl hj), hitem, _, BO.band, EX.nil ⟨rfl, rfl, p &&& ws[j], by rw [band_nat]; exact mset_self .., Nat.and_lt_two_pow _ hwm, fun r hr => ?_, hm.2.2.set⟩⟩
         rw [Nat.testBit_and, hpb r hr, all_succ, hgd, hb2]; cases ws[j].testBit r <;> rfl
       · rw [bitv'] at hb2
         refine EV.bin <| EV.name (hm.get (by rfl)) <| EV.item <| EV.name (hm.get (by rfl)) <| EV.name (hm.get (by rfl)) ⟨lw, _, _, _, rfl, rfl, hlw, by (exact om262 hj), by (exact om265 hwl hj), hitem, _, BO.sub, _, BO.band, EX.nil ⟨rfl, rfl, p &&& (2 ^ R - 1 - ws[j]), by rw [full_sub hwm, band_nat]; exact mset_self .., Nat.and_lt_two_pow _ (by (exact om266 hj hwm)), fun r hr => ?_, hm.2.2.set⟩⟩
         rw [Nat.testBit_and, hpb r hr, all_succ, hgd, hb2, full_sub_bit hwm, decide_eq_true hr]; cases ws[j].testBit r <;> rfl
     · have e1 := e1.symm; subst e1
       refine EX.cons <| EX.set <| EV.bin <| EV.name (hm.get (by rfl)) <| EV.name hp ⟨_, BO.bor, EX.nil <| EX.nil ⟨rfl, rfl, t ||| p, by rw [bor_nat]; exact mset_self .., Nat.or_lt_two_pow hlt hpl, fun r hr => ?_, hm.2.2.set⟩⟩
       rw [Nat.testBit_or, hb r hr, hpb r hr]
       have := idx_all (bs := ws.map (·.testBit r)) (row := i) (by rw [hlen]; exact hi)
       rw [hlen] at this
       rw [this]
       generalize idx (ws.map (·.testBit r)) = n
       by_cases z : n = i
       · subst z; rw [hT]; simp
       · rw [decide_eq_false z, Bool.or_false]
         congr 1
         exact decide_eq_decide.mpr (by (exact om267 z))
   · rw [bitv'] at hT
     refine EX.nil <| EX.nil ⟨rfl, rfl, t, hm.get (by rfl), hlt, fun r hr => ?_, hm.2.2⟩
     rw [hb r hr]
     generalize idx (ws.map (·.testBit r)) = n
     by_cases z : n = i
     · subst z; rw [hT]; simp
     · congr 1
       exact decide_eq_decide.mpr (by (exact om267 z))

 have number_ok : ∀ {c : Cx} {H : AH} {k : Int} {bv : BV} (G : Gl c ((Mine.main.heap_1_39 c.w.params))) {dw ln : Addr} {kvs : List (Int × Value)} {nets : List Int} {R row : Nat} (hdw : H dw = some (.idict kvs)) (W : WD kvs k bv R) (hln : H ln = some (.list (nets.map I))) (hn : ∀ a ∈ nets, 0 ≤ a ∧ a < k) (hl : nets.length ≤ 5) (hr : row < R) (hR : R ≤ 60), FN c 1 (.ref 256) [Rf dw, Rf ln, IN row] H (fun r H' => (∃ D o, H D = none ∧ H' = upd H D o) ∧ r = IN (idx (nets.map (bv · row)))) := by
  as_aux_lemma =>
   intro c H k bv G dw ln kvs nets R row hdw W hln hn hl hr hR
   refine FN.def G (f := 256) (by rfl) (by rfl) (names := ["words", "nets", "row"]) (by rfl) (len3 fun _ _ _ => by rfl) (fun L => List.all_eq_true.mp (by rfl)) fun A L hA => ?_
   refine EX.cons <| EX.ret <| EV.sum G (by rfl) hA.1 <| EV.compR G (by rfl) hA.1 <| EV.len G (by rfl) <| EV.name (by rfl) ⟨ln, _, rfl, hln, by simp; (exact om268 hl), nets.length, fun i ys H' => H' = H ∧ ∃ us : List Int, ys = us.map I ∧ us.length = i ∧ us.sum = (idx ((nets.take i).map (bv · row)) : Int), by simp, by (exact om269 hl),
     fun i ys H' ⟨_, us, e1, e2, _⟩ => by rw [e1]; simpa using e2, ⟨rfl, [], rfl, rfl, rfl⟩, fun C cl i ys H1 hi q9 => ?_, fun ys H1 D q9 hD => ?_⟩
   obtain ⟨e0, us, e1, e2, e3⟩ := q9
   rotate_left 1
   obtain ⟨e0, us, e1, e2, e3⟩ := q9
   rotate_right 1
   · have e0 := e0.symm; subst e0
     obtain ⟨a, ha1, ha2, ham, hga⟩ := atI hi
     obtain ⟨z1, z2⟩ := hn a ham
     obtain ⟨n, hv, hlt, hb⟩ := W a z1 z2
     refine EV.bin <| EV.bin <| EV.bin <| EV.itemD <| EV.name (by rfl) <| EV.item <| EV.name (by rfl) <| EV.name (by rfl) ⟨ln, _, _, _, rfl, rfl, hln, by (exact om199 e2), by (exact om270 hl hi e2), ha2, dw, kvs, a, _, rfl, rfl, hdw, hv, EV.bin <| EV.int <| EV.name (by rfl) ⟨_, BO.pow (by (exact om114)) (by (exact om271 hr hR)) (by decide), _, BO.floordiv pow_ne (natAbs_pow (by (exact om272 hr hR))), EV.int ⟨_, BO.mod (by decide),
       EV.bin <| EV.int <| EV.name (by rfl) ⟨_, BO.pow (by (exact om199 e2)) (by (exact om273 hl hi e2)) (by decide), _, BO.mul (by rw [bitw]; unfold b2i; split <;> decide), rfl, us ++ [b2i (bv a row) * (2 ^ i : Nat)], ?_, by simp [e2], ?_⟩⟩⟩⟩
     · rw [bitw, hb row hr, pow2_nat, e1]; simp
     · rw [List.sum_append, e3, List.take_add_one, ha1, List.map_append]
       show _ + ([b2i (bv a row) * (2 ^ i : Nat)] : List Int).sum = ((idx (_ ++ [bv a row]) : Nat) : Int)
       rw [idx_snoc, show (List.map (fun x => bv x row) (List.take i nets)).length = i by simp; (exact om274 hi e2)]
       unfold b2i
       cases bv a row <;> simp
   · have e0 := e0.symm; subst e0
     refine ⟨D, us, rfl, by rw [e1]; exact upd_self .., ⟨D, _, hD, rfl⟩, ?_⟩
     show I us.sum = _
     rw [e3, List.take_length]

 have words_ok : ∀ {c : Cx} {H : AH} {x : Ad} {k : Int} {bv : BV} (G : Gl c ((Mine.main.heap_1_39 c.w.params))) (h : ST x k bv H) {xs : List Row2} {nk : Nat} (hk : k ≤ 10000) (hnk : 1 ≤ nk ∧ nk ≤ 5) (hk0 : x.k0 = 2 + nk) (hbv : ∀ j r : Nat, j < nk → bv (2 + j) r = r.testBit j) (hli : H x.li = some (.list (xs.map fun q => Rf q.1))) (hxs : ∀ q ∈ xs, H q.1 = some (.tup [q.2.1, Rf q.2.2.1]) ∧ H q.2.2.1 = some (.list q.2.2.2)) (hflat : (xs.flatMap fun q => q.2.2.2) = (List.range nk).map fun j : Nat => I (2 + (j : Int))), FN c 3 (.ref 251) [Rf x.n] H (fun r H' => ∃ t D kvs, r = Rf t ∧ H' t = some (.tup [Rf D, IN (2 ^ nk)]) ∧ H' D = some (.idict kvs) ∧ WD kvs k bv (2 ^ nk) ∧ Ext H H') := by
  as_aux_lemma =>
   intro c H x k bv G h xs nk hk hnk hk0 hbv hli hxs hflat
   have hk2 := h.kpos
   refine FN.def G (f := 251) (by rfl) (by rfl) (names := ["net"]) (by rfl) (len1 fun _ => by rfl) (fun L => List.all_eq_true.mp (by rfl)) fun A L hA => ?_
   refine EX.cons <| EX.setcomp2 hA.1 <| EV.attr G (EV.name (by rfl) ⟨_, _, _, _, _, rfl, clsN, h.hn, h.hdn, by rfl, by rfl, rfl, x.li, xs, rfl, hli, hxs, by rw [hflat]; simp; (exact om276 hnk hk0), fun Dk hDk => ?_⟩)
   rw [hflat]
   have eK : (List.range nk).map (fun j : Nat => I (2 + (j : Int))) = ((List.range nk).map (fun j : Nat => 2 + (j : Int))).map I := by rw [List.map_map]; rfl
   rw [eK]
   generalize hK : (List.range nk).map (fun j : Nat => 2 + (j : Int)) = ks
   have lK : ks.length = nk := by rw [← hK]; simp
   have gK : ∀ j, j < nk → ks[j]? = some (2 + (j : Int)) := fun j hj => by rw [← hK, List.getElem?_map, List.getElem?_range hj]; rfl
   have x1 := Ext.new hDk (.list (ks.map I))
   have hks : upd H Dk (.list (ks.map I)) Dk = some (.list (ks.map I)) := upd_self ..
   generalize upd H Dk (.list (ks.map I)) = H1 at *
   have hRp : 2 ^ nk ≤ 32 := Nat.pow_le_pow_right (n := 2) (by decide) hnk.2
   have hRp0 : 0 < 2 ^ nk := Nat.pow_pos (by decide)
   have hRR : 0 < 2 ^ (2 ^ nk) := Nat.pow_pos (by decide)
   refine EX.cons <| EX.set <| EV.bin <| EV.bin <| EV.int <| EV.bin <| EV.int <| EV.len G (by rfl) <| EV.name (by rfl) ⟨Dk, _, rfl, hks, by simp; (exact om277 hnk hk0 lK), _, BO.pow (by (exact om114)) (by simp; (exact om278 hnk hk0 lK)) (by decide), _, BO.pow (by rw [List.length_map, lK, pow2_nat]; (exact om279 hRp hRp0)) (by rw [List.length_map, lK, pow2_nat]; (exact om280 hRp hRp0)) (by decide), EV.int ⟨_, BO.sub, ?_⟩⟩
   have efull : I ((2 : Int) ^ ((2 : Int) ^ (((ks.map I).length : Int)).toNat).toNat - 1) = IN (2 ^ (2 ^ nk) - 1) := by
     rw [List.length_map, lK, pow2_nat, pow2_nat]
     show Value.int _ 0 = Value.int _ 0
     congr 1; (exact om281 hRR)
   rw [efull]
   refine EX.cons <| EX.set <| EV.dictI (by rfl) (by rfl) (List.cons_ne_nil _ _) (Nat.le_of_ble_eq_true rfl) <| EPs.cons <| EV.int <| EV.int <| EPs.cons <| EV.int <| EV.name (by rfl) <| EPs.nil ⟨[(0, I 0), (1, IN (2 ^ (2 ^ nk) - 1))], rfl, (by decide : ([0, 1] : List Int).Nodup), fun Dw hDw => ?_⟩
   have hDw0 := x1.none hDw
   have x2 := x1.set hDw0 (.idict [(0, I 0), (1, IN (2 ^ (2 ^ nk) - 1))])
   have neK : Dk ≠ Dw := by rintro rfl; rw [hks] at hDw; cases hDw
   have hks2 : upd H1 Dw (.idict [(0, I 0), (1, IN (2 ^ (2 ^ nk) - 1))]) Dk = some (.list (ks.map I)) := by rw [upd_ne _ _ neK]; exact hks
   have hw2 : upd H1 Dw (.idict [(0, I 0), (1, IN (2 ^ (2 ^ nk) - 1))]) Dw = some (.idict [(0, I 0), (1, IN (2 ^ (2 ^ nk) - 1))]) := upd_self ..
   generalize upd H1 Dw (.idict [(0, I 0), (1, IN (2 ^ (2 ^ nk) - 1))]) = H2 at *
   have w0 : WD [(0, I 0), (1, IN (2 ^ (2 ^ nk) - 1))] 2 bv (2 ^ nk) := fun a a0 a1 => by
     have : a = 0 ∨ a = 1 := by (exact om282 a0 a1)
     rcases this with rfl | rfl
     · exact ⟨0, rfl, hRR, fun r _ => by rw [h.b0]; simp⟩
     · exact ⟨2 ^ (2 ^ nk) - 1, rfl, by (exact om283 hRR), fun r hr => by rw [h.b1, Nat.testBit_two_pow_sub_one, decide_eq_true hr]⟩
   let names : List (Str × Value) := [("net", Rf x.n), ("keys", Rf Dk), ("full", IN (2 ^ (2 ^ nk) - 1)), ("words", Rf Dw)]
   let INV : Int → AH → Ms → Prop := fun j H' m' => ∃ kvs, H' Dw = some (.idict kvs) ∧ H' Dk = some (.list (ks.map I)) ∧ WD kvs j bv (2 ^ nk) ∧ kvs.length ≤ j ∧ Ext H H' ∧ Has m' names
   refine EX.cons <| EX.forR G (by rfl) hA.1 <| EV.len G (by rfl) <| EV.name (by rfl) ⟨Dk, _, rfl, hks2, by simp; (exact om277 hnk hk0 lK), nk, fun i H' m' => INV (2 + i) H' m', by simp [lK], by (exact om284 hnk hk0 lK), ⟨_, hw2, hks2, by simpa using w0, by simp, x2, rfl, rfl, rfl, rfl, trivial⟩, fun i H3 m3 hi q9 => ?_, fun H3 m3 q9 => ?_⟩
   obtain ⟨kvs, e1, e2, e3, e4, e5, hm⟩ := q9
   rotate_left 1
   obtain ⟨kvs, e1, e2, e3, e4, e5, hm⟩ := q9
   rotate_right 1
   · have hm : Has (mset m3 "turn" (IN i)) (("turn", IN i) :: names) := ⟨mset_self .., hm.set⟩
     generalize mset m3 "turn" (IN i) = m4 at *
     have ht : m4 "turn" = some (IN i) := hm.get (by rfl)
     refine EX.cons <| EX.setitemD <| EV.sum G (by rfl) hA.1 <| EV.comp hA.1 <| SRC.range1 G (by rfl) <| EV.bin <| EV.int <| EV.len G (by rfl) <| EV.name (hm.get (by rfl)) ⟨Dk, _, rfl, e2, by simp; (exact om277 hnk hk0 lK), _, BO.pow (by (exact om114)) (by simp; (exact om278 hnk hk0 lK)) (by decide), _, rfl, by rw [List.length_map, lK, pow2_nat]; (exact om285 hRp hRp0), by rw [List.length_map, lK, pow2_nat]; (exact om286 hRp hRp0),
       (List.range (2 ^ nk)).map (fun j : Nat => I (0 + (j : Int))), fun j ys H' => H' = H3 ∧ ∃ us : List Int, ys = us.map I ∧ us.length ≤ j ∧ us.sum = (pw (fun r => r.testBit i) j : Int), by simp; (exact om287 hRp hRp0), fun j ys H' ⟨_, us, z1, z2, _⟩ => ⟨by rw [List.length_map, lK, pow2_nat]; rfl, by rw [z1]; simpa using z2⟩, ⟨rfl, [], rfl, Nat.le_refl _, rfl⟩,
       fun C cl j v ys H4 hv q9 => ?_, fun ys H4 D q9 hD => ?_⟩
     obtain ⟨z0, us, z1, z2, z3⟩ := q9
     rotate_left 1
     obtain ⟨z0, us, z1, z2, z3⟩ := q9
     rotate_right 1
     · have z0 := z0.symm; subst z0
       rw [List.getElem?_map] at hv
       obtain ⟨j', hj, rfl⟩ := Option.map_eq_some_iff.mp hv
       obtain ⟨hlt, hij⟩ := List.getElem?_eq_some_iff.mp hj
       rw [List.getElem_range] at hij
       subst hij
       rw [List.length_range] at hlt
       rw [Int.zero_add]
       refine TS.one <| IT.cmp <| EV.bin <| EV.bin <| EV.name (by rfl) <| EV.bin <| EV.int <| EV.name ht ⟨_, BO.pow (by (exact om114)) (by (exact om288 hnk hk0 lK hi)) (by decide), _, BO.floordiv pow_ne (natAbs_pow (by (exact om289 hnk hk0 lK hi))), EV.int ⟨_, BO.mod (by decide), EV.int ⟨_, CO.eq, ite_intro (fun hb => ?_) (fun hb => ?_)⟩⟩⟩
       · rw [bitv'] at hb
         refine EV.bin <| EV.int <| EV.name (by rfl) ⟨_, BO.pow (by (exact om114)) (by (exact om290 hRp hRp0 hlt)) (by decide), rfl, us ++ [(2 : Int) ^ ((j : Nat) : Int).toNat], by rw [z1]; simp, by simp; omega, ?_⟩
         rw [List.sum_append, z3, pow2_nat]
         rw [pw_succ, if_pos hb]; simp
       · rw [bitv'] at hb
         refine ⟨rfl, us, z1, by (exact om147 z2), ?_⟩
         rw [z3, pw_succ, if_neg (by rw [hb]; exact Bool.false_ne_true)]; simp
     · have z0 := z0.symm; subst z0
       rw [List.length_map, List.length_range] at z3
       have neW : D ≠ Dw := by rintro rfl; rw [e1] at hD; cases hD
       have neK2 : D ≠ Dk := by rintro rfl; rw [e2] at hD; cases hD
       refine ⟨D, us, rfl, by rw [z1]; exact upd_self .., EV.name (hm.get (by rfl)) <| EV.item <| EV.name (hm.get (by rfl)) <| EV.name ht ⟨Dk, _, _, _, rfl, rfl, by rw [upd_ne _ _ (Ne.symm neK2)]; exact e2, by (exact om114), by (exact om291 hnk hk0 lK hi), by rw [Int.toNat_natCast, List.getElem?_map, gK i hi]; rfl,
         Dw, kvs, _, rfl, rfl, by rw [upd_ne _ _ (Ne.symm neW)]; exact e1, by (exact om292 hnk hk0 lK hi e4), EX.nil ⟨rfl, _, upd_self .., by rw [upd_ne _ _ neK, upd_ne _ _ (Ne.symm neK2)]; exact e2, ?_, ?_, ?_, hm.2⟩⟩⟩
       · rw [z3]
         refine e3.push (by (exact om293)) ?_ fun r hr => ?_
         · exact pw_lt
         · rw [pw_bit, decide_eq_true hr, Bool.true_and, hbv i r hi]
       · have := stored_len (kvs := kvs) (k := 2 + (i : Int)) (v := I us.sum); (exact om294 e4 this)
       · exact (e5.trans (Ext.new hD _)).set hDw0 _
   obtain ⟨cs, hcs, hkc, hcell⟩ := h.hlc
   have e3 : WD kvs (x.k0 + (0 : Nat)) bv (2 ^ nk) := by rw [hk0]; simpa using e3
   refine EX.cons <| EX.forL hA.1 <| EV.attr G (EV.name (hm.get (by rfl)) ⟨_, _, _, _, _, rfl, clsN, e5 _ _ h.hn, e5 _ _ h.hdn, by rfl, by rfl, rfl, x.lc, cs.map (fun q => Rf q.t), fun i H' m' => INV (x.k0 + i) H' m', rfl, fun i H' m' ⟨_, _, _, _, _, e, _⟩ => e _ _ hcs, ⟨kvs, e1, e2, e3, by rw [hk0]; simpa using e4, e5, hm⟩,
     fun i v H4 m4 hv q9 => ?_, fun H4 m4 q9 => ?_⟩)
   obtain ⟨kvs, e1, e2, e3, e4, e5, hm⟩ := q9
   rotate_left 1
   obtain ⟨kvs, e1, e2, e3, e4, e5, hm⟩ := q9
   rotate_right 1
   · rw [List.getElem?_map] at hv
     obtain ⟨q, hq, rfl⟩ := Option.map_eq_some_iff.mp hv
     have hi := (List.getElem?_eq_some_iff.mp hq).1
     obtain ⟨c1, c2, c3, c4, c5⟩ := hcell i q hq
     have d2 := e5 _ _ c2
     refine AS.tup hA.1 ⟨q.t, _, rfl, e5 _ _ c1, rfl, ASL.cons <| AS.name <| ASL.cons <| AS.name <| ASL.cons <| AS.name <| ASL.cons <| AS.name <| ASL.nil ?_⟩
     have hm : Has (mset (mset (mset (mset m4 "kind" (S q.kind)) "out" (I (x.k0 + i))) "ins" (Rf q.ti)) "param" Value.none) (("kind", S q.kind) :: ("out", I (x.k0 + i)) :: ("ins", Rf q.ti) :: ("param", Value.none) :: names) := ⟨rfl, rfl, rfl, rfl, hm.set.set.set.set⟩
     generalize mset (mset (mset (mset m4 "kind" (S q.kind)) "out" (I (x.k0 + i))) "ins" (Rf q.ti)) "param" Value.none = m5 at *
     have hwd5 : m5 "words" = some (Rf Dw) := hm.get (by rfl)
     have hil : q.ins.length ≤ 3 := by rcases c3 with ⟨_, e⟩ | ⟨_, e⟩ | ⟨_, e⟩ | ⟨_, e⟩ | ⟨_, e⟩ <;> (first | exact om295 e | exact om296 e | exact om297 e)
     refine EX.cons <| EX.setitemD ?_
     refine EV.callF G (by rfl) (by rfl) (hA.le (by decide : 1 ≤ 2)) <| EVs.cons ?_
     refine EV.callF G (by rfl) (by rfl) (hA.le (by decide : 1 ≤ 2)) <| EVs.cons <| EV.name (hm.get (by rfl)) <| EVs.cons <| EV.name (hm.get (by rfl)) <| EVs.nil <| (table_ok G c3).mono fun r H5 q9 => ?_
     obtain ⟨t1, Dt, ot, hDt, t2⟩ := q9
     subst t1 t2
     have neWt : Dt ≠ Dw := by rintro rfl; rw [e1] at hDt; cases hDt
     have neKt : Dt ≠ Dk := by rintro rfl; rw [e2] at hDt; cases hDt
     have e1 : upd H4 Dt ot Dw = some (.idict kvs) := by rw [upd_ne _ _ (Ne.symm neWt)]; exact e1
     have e2 : upd H4 Dt ot Dk = some (.list (ks.map I)) := by rw [upd_ne _ _ (Ne.symm neKt)]; exact e2
     have xt : Ext H4 (upd H4 Dt ot) := Ext.new hDt ot
     have e5 := e5.trans xt
     have d2 := xt _ _ d2
     generalize upd H4 Dt ot = H5 at *
     refine EVs.cons <| EV.comp hA.1 <| SRC.tup <| EV.name (hm.get (by rfl)) ⟨q.ti, _, rfl, d2, q.ins.map I, fun j ys H' => H' = H5 ∧ ∃ us : List Nat, ys = us.map IN ∧ us.length = j ∧ (∀ w ∈ us, w < 2 ^ (2 ^ nk)) ∧ ∀ r < 2 ^ nk, us.map (·.testBit r) = (q.ins.take j).map (bv · r), by simp; (exact om298 hil),
       fun j ys H' ⟨z0, us, z1, z2, _⟩ => ⟨by rw [z0]; exact d2, by rw [z1]; simp; (exact om299 (by assumption) z2)⟩, ⟨rfl, [], rfl, rfl, (fun w hw => nomatch hw), fun r _ => rfl⟩, fun C cl j v ys H6 hv ⟨z0, us, z1, z2, z3, z4⟩ => TS.nil ?_, fun ys H6 D q9 hD => ?_⟩
     rotate_left 1
     obtain ⟨z0, us, z1, z2, z3, z4⟩ := q9
     rotate_right 1
     · rw [if_pos rfl]
       have z0 := z0.symm; subst z0
       obtain ⟨a, ha, rfl, hmem, hlt, hgd⟩ := getI hv
       obtain ⟨a0, a1⟩ := c4 a hmem
       obtain ⟨n, n1, n2, n3⟩ := e3 a a0 a1
       refine EV.itemD <| EV.name hwd5 <| EV.name (by rfl) ⟨Dw, kvs, a, _, rfl, rfl, e1, n1, rfl, us ++ [n], by rw [z1]; simp, by simp [z2], fun w hw => ?_, fun r hr => ?_⟩
       · rcases List.mem_append.mp hw with hw | hw
         · exact z3 w hw
         · cases List.mem_singleton.mp hw; exact n2
       · rw [List.map_append, z4 r hr, List.take_add_one, ha, List.map_append]
         show _ ++ [n.testBit r] = _ ++ [bv a r]
         rw [n3 r hr]
     · have z0 := z0.symm; subst z0
       rw [List.length_map] at z2
       have neW : D ≠ Dw := by rintro rfl; rw [e1] at hD; cases hD
       have neK2 : D ≠ Dk := by rintro rfl; rw [e2] at hD; cases hD
       have hself : upd H5 D (.list ys) D = some (.list (us.map IN)) := by rw [z1]; exact upd_self ..
       have x6 : Ext H5 (upd H5 D (.list ys)) := Ext.new hD _
       have e1 := x6 _ _ e1
       have e2 := x6 _ _ e2
       have e5 := e5.trans x6
       generalize upd H5 D (.list ys) = H6 at *
       refine EVs.cons <| EV.name (hm.get (by rfl)) <| EVs.nil <| (word_ok G hself (by (exact om300 hil z2)) z3 (by (exact om301 hRp hRp0))).mono fun r H7 q9 => ?_
       obtain ⟨w0, t, w1, w2, w3⟩ := q9
       have w0 := w0.symm; subst w0 w1
       refine EV.name hwd5 <| EV.name (hm.get (by rfl)) ⟨Dw, kvs, _, rfl, rfl, e1, by (exact om302 hk hk0 hk2 lK hkc e4 hi), EX.nil ⟨rfl, _, upd_self .., by rw [upd_ne _ _ neK]; exact e2, ?_, ?_, e5.set hDw0 _, hm.2.2.2.2⟩⟩
       · rw [show x.k0 + ((i + 1 : Nat) : Int) = x.k0 + i + 1 by (exact om303)]
         refine e3.push (by (exact om304 hk0 lK e4)) w2 fun r hr => ?_
         rw [w3 r hr, z4 r hr, c5 r, List.take_of_length_le (by simp)]
         rfl
       · have := stored_len (kvs := kvs) (k := x.k0 + (i : Int)) (v := IN t); (exact om305 hk0 lK e4 this)
   · rw [List.length_map] at e3
     refine EX.cons <| EX.ret <| EV.tup <| EVs.cons <| EV.name (hm.get (by rfl)) <| EVs.cons <| EV.bin <| EV.int <| EV.len G (by rfl) <| EV.name (hm.get (by rfl)) ⟨Dk, _, rfl, e2, by simp; (exact om277 hnk hk0 lK), _, BO.pow (by (exact om114)) (by simp; (exact om278 hnk hk0 lK)) (by decide), EVs.nil ⟨by simp, fun t ht => ?_⟩⟩
     have xt : Ext H4 (upd H4 t (.tup [Rf Dw, I (2 ^ (((ks.map I).length : Int)).toNat)])) := Ext.new ht _
     refine ⟨t, Dw, kvs, rfl, ?_, xt _ _ e1, by rw [hkc]; exact e3, e5.trans xt⟩
     rw [upd_self, List.length_map, lK, pow2_nat]

 have netinit_ok : ∀ {c : Cx} {H : AH} (G : Gl c ((Mine.main.heap_1_39 c.w.params))) {n dn : Addr} (h1 : H n = some (.inst 144 dn)) (h2 : H dn = some (.ns [])), FN c 2 (.ref 85) [Rf n, S "m"] H (fun r H' => r = .none ∧ ∃ li lo lc, H' n = some (.inst 144 dn) ∧ H' dn = some (.ns [("name", S "m"), ("count", I 2), ("inputs", Rf li), ("outputs", Rf lo), ("cells", Rf lc)]) ∧ H' li = some (.list []) ∧ H' lc = some (.list []) ∧ lc ≠ li ∧ H li = none ∧ H lc = none ∧ ExtB dn H H') := by
  as_aux_lemma =>
   intro c H G n dn h1 h2
   have n1 : n ≠ dn := by rintro rfl; rw [h1] at h2; cases h2
   refine FN.def G (f := 85) (by rfl) (by rfl) (names := ["self", "name"]) (by rfl) (len2 fun _ _ => by rfl) (fun L => List.all_eq_true.mp (by rfl)) fun A L hA => ?_
   have up : ∀ {H' : AH} (o : AObj), H' n = some (.inst 144 dn) → upd H' dn o n = some (.inst 144 dn) := fun o h => by rw [upd_ne _ _ n1]; exact h
   refine EX.cons <| EX.setattr G <| EV.name (by rfl) <| EV.name (by rfl) ⟨n, _, dn, _, rfl, clsN, h1, h2, by rfl, by decide, ?_⟩
   have x1 : ExtB dn H (upd H dn (.ns (nsput "name" (S "m") []))) := ExtB.refl.set _
   have h1 := up (.ns (nsput "name" (S "m") [])) h1
   have h2 : upd H dn (.ns (nsput "name" (S "m") [])) dn = some (.ns [("name", S "m")]) := upd_self ..
   generalize upd H dn (.ns (nsput "name" (S "m") [])) = H1 at *
   refine EX.cons <| EX.setattr G <| EV.int <| EV.name (by rfl) ⟨n, _, dn, _, rfl, clsN, h1, h2, by rfl, by simp, ?_⟩
   have x1 := x1.set (.ns (nsput "count" (I 2) [("name", S "m")]))
   have h1 := up (.ns (nsput "count" (I 2) [("name", S "m")])) h1
   have h2 : upd H1 dn (.ns (nsput "count" (I 2) [("name", S "m")])) dn = some (.ns [("name", S "m"), ("count", I 2)]) := upd_self ..
   generalize upd H1 dn (.ns (nsput "count" (I 2) [("name", S "m")])) = H2 at *
   refine EX.cons <| EX.setattr G <| EV.list (by simp) <| EVs.nil ⟨by simp, fun li hli => ?_⟩
   have eli : H li = none := by
     cases q : H li with
     | none => rfl
     | some o => by_cases z : li = dn
                 · rw [z, h2] at hli; cases hli
                 · rw [x1 _ _ q z] at hli; cases hli
   have nli := ne_of h2 hli
   have h1 : upd H2 li (.list []) n = some (.inst 144 dn) := by rw [upd_ne _ _ (ne_of h1 hli)]; exact h1
   have h2 : upd H2 li (.list []) dn = some (.ns [("name", S "m"), ("count", I 2)]) := by rw [upd_ne _ _ nli]; exact h2
   have x1 := x1.new hli (.list [])
   have k1 : upd H2 li (.list []) li = some (.list []) := upd_self ..
   generalize upd H2 li (.list []) = H3 at *
   refine EV.name (by rfl) ⟨n, _, dn, _, rfl, clsN, h1, h2, by rfl, by simp, ?_⟩
   have x1 := x1.set (.ns (nsput "inputs" (Rf li) [("name", S "m"), ("count", I 2)]))
   have h1 := up (.ns (nsput "inputs" (Rf li) [("name", S "m"), ("count", I 2)])) h1
   have h2 : upd H3 dn (.ns (nsput "inputs" (Rf li) [("name", S "m"), ("count", I 2)])) dn = some (.ns [("name", S "m"), ("count", I 2), ("inputs", Rf li)]) := upd_self ..
   have k1 : upd H3 dn (.ns (nsput "inputs" (Rf li) [("name", S "m"), ("count", I 2)])) li = some (.list []) := by rw [upd_ne _ _ (Ne.symm nli)]; exact k1
   generalize upd H3 dn (.ns (nsput "inputs" (Rf li) [("name", S "m"), ("count", I 2)])) = H4 at *
   refine EX.cons <| EX.setattr G <| EV.list (by simp) <| EVs.nil ⟨by simp, fun lo hlo => ?_⟩
   have nlo := ne_of h2 hlo
   have h1 : upd H4 lo (.list []) n = some (.inst 144 dn) := by rw [upd_ne _ _ (ne_of h1 hlo)]; exact h1
   have h2 : upd H4 lo (.list []) dn = some (.ns [("name", S "m"), ("count", I 2), ("inputs", Rf li)]) := by rw [upd_ne _ _ nlo]; exact h2
   have x1 := x1.new hlo (.list [])
   have k1 : upd H4 lo (.list []) li = some (.list []) := by rw [upd_ne _ _ (ne_of k1 hlo)]; exact k1
   generalize upd H4 lo (.list []) = H5 at *
   refine EV.name (by rfl) ⟨n, _, dn, _, rfl, clsN, h1, h2, by rfl, by simp, ?_⟩
   have x1 := x1.set (.ns (nsput "outputs" (Rf lo) [("name", S "m"), ("count", I 2), ("inputs", Rf li)]))
   have h1 := up (.ns (nsput "outputs" (Rf lo) [("name", S "m"), ("count", I 2), ("inputs", Rf li)])) h1
   have h2 : upd H5 dn (.ns (nsput "outputs" (Rf lo) [("name", S "m"), ("count", I 2), ("inputs", Rf li)])) dn = some (.ns [("name", S "m"), ("count", I 2), ("inputs", Rf li), ("outputs", Rf lo)]) := upd_self ..
   have k1 : upd H5 dn (.ns (nsput "outputs" (Rf lo) [("name", S "m"), ("count", I 2), ("inputs", Rf li)])) li = some (.list []) := by rw [upd_ne _ _ (Ne.symm nli)]; exact k1
   generalize upd H5 dn (.ns (nsput "outputs" (Rf lo) [("name", S "m"), ("count", I 2), ("inputs", Rf li)])) = H6 at *
   refine EX.cons <| EX.setattr G <| EV.list (by simp) <| EVs.nil ⟨by simp, fun lc hlc => ?_⟩
   have elc : H lc = none := by
     cases q : H lc with
     | none => rfl
     | some o => by_cases z : lc = dn
                 · rw [z, h2] at hlc; cases hlc
                 · rw [x1 _ _ q z] at hlc; cases hlc
   have nlc := ne_of h2 hlc
   have nll := ne_of k1 hlc
   have h1 : upd H6 lc (.list []) n = some (.inst 144 dn) := by rw [upd_ne _ _ (ne_of h1 hlc)]; exact h1
   have h2 : upd H6 lc (.list []) dn = some (.ns [("name", S "m"), ("count", I 2), ("inputs", Rf li), ("outputs", Rf lo)]) := by rw [upd_ne _ _ nlc]; exact h2
   have x1 := x1.new hlc (.list [])
   have k1 : upd H6 lc (.list []) li = some (.list []) := by rw [upd_ne _ _ nll]; exact k1
   have k2 : upd H6 lc (.list []) lc = some (.list []) := upd_self ..
   generalize upd H6 lc (.list []) = H7 at *
   refine EV.name (by rfl) ⟨n, _, dn, _, rfl, clsN, h1, h2, by rfl, by simp, EX.nil ⟨rfl, li, lo, lc, up _ h1, upd_self .., ?_, ?_, Ne.symm nll, eli, elc, x1.set _⟩⟩
   · rw [upd_ne _ _ (Ne.symm nli)]; exact k1
   · rw [upd_ne _ _ (Ne.symm nlc)]; exact k2

 have gatesinit_ok : ∀ {c : Cx} {H : AH} (G : Gl c ((Mine.main.heap_1_39 c.w.params))) {g dg n : Addr} (h1 : H g = some (.inst 221 dg)) (h2 : H dg = some (.ns [])), FN c 2 (.ref 162) [Rf g, Rf n] H (fun r H' => r = .none ∧ ∃ dm dop, H' g = some (.inst 221 dg) ∧ H' dg = some (.ns [("netlist", Rf n), ("made", Rf dm), ("opposite", Rf dop)]) ∧ H' dm = some (.tdict []) ∧ H' dop = some (.idict []) ∧ ExtB dg H H') := by
  as_aux_lemma =>
   intro c H G g dg n h1 h2
   have n1 : g ≠ dg := by rintro rfl; rw [h1] at h2; cases h2
   refine FN.def G (f := 162) (by rfl) (by rfl) (names := ["self", "netlist"]) (by rfl) (len2 fun _ _ => by rfl) (fun L => List.all_eq_true.mp (by rfl)) fun A L hA => ?_
   have up : ∀ {H' : AH} (o : AObj), H' g = some (.inst 221 dg) → upd H' dg o g = some (.inst 221 dg) := fun o h => by rw [upd_ne _ _ n1]; exact h
   refine EX.cons <| EX.setattr G <| EV.name (by rfl) <| EV.name (by rfl) ⟨g, _, dg, _, rfl, clsG, h1, h2, by rfl, by decide, ?_⟩
   have x1 : ExtB dg H (upd H dg (.ns (nsput "netlist" (Rf n) []))) := ExtB.refl.set _
   have h1 := up (.ns (nsput "netlist" (Rf n) [])) h1
   have h2 : upd H dg (.ns (nsput "netlist" (Rf n) [])) dg = some (.ns [("netlist", Rf n)]) := upd_self ..
   generalize upd H dg (.ns (nsput "netlist" (Rf n) [])) = H1 at *
   refine EX.cons <| EX.setattr G <| EV.dict0 fun dm hdm => .inr ?_
   have nm := ne_of h2 hdm
   have h1 : upd H1 dm (.tdict []) g = some (.inst 221 dg) := by rw [upd_ne _ _ (ne_of h1 hdm)]; exact h1
   have h2 : upd H1 dm (.tdict []) dg = some (.ns [("netlist", Rf n)]) := by rw [upd_ne _ _ nm]; exact h2
   have x1 := x1.new hdm (.tdict [])
   have k1 : upd H1 dm (.tdict []) dm = some (.tdict []) := upd_self ..
   generalize upd H1 dm (.tdict []) = H2 at *
   refine EV.name (by rfl) ⟨g, _, dg, _, rfl, clsG, h1, h2, by rfl, by simp, ?_⟩
   have x1 := x1.set (.ns (nsput "made" (Rf dm) [("netlist", Rf n)]))
   have h1 := up (.ns (nsput "made" (Rf dm) [("netlist", Rf n)])) h1
   have h2 : upd H2 dg (.ns (nsput "made" (Rf dm) [("netlist", Rf n)])) dg = some (.ns [("netlist", Rf n), ("made", Rf dm)]) := upd_self ..
   have k1 : upd H2 dg (.ns (nsput "made" (Rf dm) [("netlist", Rf n)])) dm = some (.tdict []) := by rw [upd_ne _ _ (Ne.symm nm)]; exact k1
   generalize upd H2 dg (.ns (nsput "made" (Rf dm) [("netlist", Rf n)])) = H3 at *
   refine EX.cons <| EX.setattr G <| EV.dict0 fun dop hdop => .inl ?_
   have no := ne_of h2 hdop
   have h1 : upd H3 dop (.idict []) g = some (.inst 221 dg) := by rw [upd_ne _ _ (ne_of h1 hdop)]; exact h1
   have h2 : upd H3 dop (.idict []) dg = some (.ns [("netlist", Rf n), ("made", Rf dm)]) := by rw [upd_ne _ _ no]; exact h2
   have x1 := x1.new hdop (.idict [])
   have k1 : upd H3 dop (.idict []) dm = some (.tdict []) := by rw [upd_ne _ _ (ne_of k1 hdop)]; exact k1
   have k2 : upd H3 dop (.idict []) dop = some (.idict []) := upd_self ..
   generalize upd H3 dop (.idict []) = H4 at *
   refine EV.name (by rfl) ⟨g, _, dg, _, rfl, clsG, h1, h2, by rfl, by simp, EX.nil ⟨rfl, dm, dop, up _ h1, upd_self .., ?_, ?_, x1.set _⟩⟩
   · rw [upd_ne _ _ (Ne.symm nm)]; exact k1
   · rw [upd_ne _ _ (Ne.symm no)]; exact k2

 have new_nets_ok : ∀ {c : Cx} {H : AH} (G : Gl c ((Mine.main.heap_1_39 c.w.params))) {x : Ad} {k : Int} {w : Nat} (h1 : H x.n = some (.inst 144 x.dn)) (h2 : H x.dn = some (nsN x k)) (hw : w ≤ 100), FN c 2 (.ref 97) [Rf x.n, IN w] H (fun r H' => ∃ D, r = Rf D ∧ H D = none ∧ H' = upd (upd H x.dn (nsN x (k + w))) D (.list ((rngI k w).map I))) := by
  as_aux_lemma =>
   intro c H G x k w h1 h2 hw
   have n1 : x.n ≠ x.dn := by intro e; rw [e, h2] at h1; cases h1
   refine FN.def G (f := 97) (by rfl) (by rfl) (names := ["self", "width"]) (by rfl) (len2 fun _ _ => by rfl) (fun L => List.all_eq_true.mp (by rfl)) fun A L hA => ?_
   refine EX.cons <| EX.ret <| EV.compR G (by rfl) hA.1 <| EV.name (by rfl) ⟨w, fun i ys H' => H' = upd H x.dn (nsN x (k + i)) ∧ ys = (rngI k i).map I, rfl, by (exact om306 hw), fun i ys H' ⟨_, e⟩ => by rw [e, List.length_map, rngI_len], ⟨by rw [show k + ((0 : Nat) : Int) = k by simp]; exact (upd_same h2).symm, rfl⟩, fun C cl i ys H1 hi q9 => ?_, fun ys H1 D q9 hD => ?_⟩
   obtain ⟨e1, e2⟩ := q9
   rotate_left 1
   obtain ⟨e1, e2⟩ := q9
   rotate_right 1
   · have g1 : H1 x.n = some (.inst 144 x.dn) := by rw [e1, upd_ne _ _ n1]; exact h1
     have g2 : H1 x.dn = some (nsN x (k + i)) := by rw [e1, upd_self]
     refine EV.meth0 G (EV.name (by rfl) ⟨_, _, _, _, _, 1, rfl, clsN, g1, g2, by rfl, by rfl, by rfl, by rfl, hA, (new_net_ok G g1 g2).mono fun r H' q9 => ?_⟩)
     obtain ⟨z1, z2⟩ := q9
     exact ⟨by rw [z2, e1, upd_upd, show k + ((i + 1 : Nat) : Int) = k + i + 1 by (exact om303)], by rw [e2, rngI_succ, List.map_append, z1]; rfl⟩
   · refine ⟨D, rfl, ?_, by rw [e1, e2]⟩
     rw [e1, upd_ne] at hD; exact hD
     rintro rfl; rw [upd_self] at hD; cases hD

 have add_input_ok : ∀ {c : Cx} {H : AH} (G : Gl c ((Mine.main.heap_1_39 c.w.params))) {x : Ad} {k : Int} {w : Nat} {nm : Str} {vs : List Value} (h1 : H x.n = some (.inst 144 x.dn)) (h2 : H x.dn = some (nsN x k)) (h3 : H x.li = some (.list vs)) (hv : vs.length ≤ 100) (hw : w ≤ 100), FN c 3 (.ref 104) [Rf x.n, S nm, IN w] H (fun r H' => ∃ D D2 t, r = Rf D ∧ H D = none ∧ H D2 = none ∧ H t = none ∧ D ≠ D2 ∧ H' D = some (.list ((rngI k w).map I)) ∧ H' D2 = some (.list ((rngI k w).map I)) ∧ H' t = some (.tup [S nm, Rf D2]) ∧ H' x.dn = some (nsN x (k + w)) ∧
      H' x.li = some (.list (vs ++ [Rf t])) ∧ ∀ b o, H b = some o → b ≠ x.dn → b ≠ x.li → H' b = some o) := by
  as_aux_lemma =>
   intro c H G x k w nm vs h1 h2 h3 hv hw
   have n1 : x.n ≠ x.dn := by intro e; rw [e, h2] at h1; cases h1
   have n2 : x.li ≠ x.dn := by intro e; rw [e, h2] at h3; cases h3
   have n3 : x.n ≠ x.li := by intro e; rw [e, h3] at h1; cases h1
   refine FN.def G (f := 104) (by rfl) (by rfl) (names := ["self", "name", "width"]) (by rfl) (len3 fun _ _ _ => by rfl) (fun L => List.all_eq_true.mp (by rfl)) fun A L hA => ?_
   refine EX.cons <| EX.set <| EV.meth G (EV.name (by rfl) ⟨_, _, _, _, _, 2, rfl, clsN, h1, h2, by rfl, by rfl, by rfl, by rfl, hA, EVs.cons <| EV.name (by rfl) <| EVs.nil <| (new_nets_ok G h1 h2 hw).mono fun r H1 q9 => ?_⟩)
   obtain ⟨D, z1, z2, z3⟩ := q9
   subst z1
   have a1 : H1 x.dn = some (nsN x (k + w)) := by rw [z3, upd_ne _ _ (ne_of h2 z2), upd_self]
   have a2 : H1 D = some (.list ((rngI k w).map I)) := by rw [z3, upd_self]
   have a3 : ∀ b o, H b = some o → b ≠ x.dn → H1 b = some o := fun b o hb n => by rw [z3, upd_ne _ _ (ne_of hb z2), upd_ne _ _ n]; exact hb
   have back : ∀ b, H1 b = none → H b = none := fun b hb => by
     cases q : H b with
     | none => rfl
     | some o => by_cases z : b = x.dn
                 · rw [z, a1] at hb; cases hb
                 · rw [a3 _ _ q z] at hb; cases hb
   clear z3
   refine EX.cons <| EX.expr <| EV.append <| EV.attr G (EV.name (by rfl) ⟨_, _, _, _, _, rfl, clsN, a3 _ _ h1 n1, a1, by rfl, by rfl, rfl, x.li, vs, rfl, a3 _ _ h3 n2, EV.tup <| EVs.cons <| EV.name (by rfl) <| EVs.cons <| EV.listOf G (by rfl) <| EV.name (by rfl) ⟨D, _, rfl, a2, by rw [List.length_map, rngI_len]; (exact om306 hw), fun D2 hD2 => EVs.nil ⟨by simp, fun t ht => ?_⟩⟩⟩)
   have x1 : Ext H1 (upd (upd H1 D2 (.list ((rngI k w).map I))) t (.tup [S nm, Rf D2])) := (Ext.new hD2 _).trans (Ext.new ht _)
   have b2 : upd (upd H1 D2 (.list ((rngI k w).map I))) t (.tup [S nm, Rf D2]) D2 = some (.list ((rngI k w).map I)) := by rw [upd_ne]; exact upd_self ..; rintro rfl; rw [upd_self] at ht; cases ht
   have b3 : upd (upd H1 D2 (.list ((rngI k w).map I))) t (.tup [S nm, Rf D2]) t = some (.tup [S nm, Rf D2]) := upd_self ..
   have t0 : H1 t = none := (Ext.new hD2 _).none ht
   generalize upd (upd H1 D2 (.list ((rngI k w).map I))) t (.tup [S nm, Rf D2]) = H2 at *
   refine ⟨vs, x1 _ _ (a3 _ _ h3 n2), by (exact om306 hv), (fun _ e => nomatch e), EX.cons <| EX.ret <| EV.name (by rfl) ⟨D, D2, t, rfl, z2, back _ hD2, back _ t0, ne_of a2 hD2, ?_, ?_, ?_, ?_, upd_self .., fun b o hb m1 m2 => ?_⟩⟩
   · rw [upd_ne]; exact x1 _ _ a2
     rintro rfl; rw [h3] at z2; cases z2
   · rw [upd_ne]; exact b2
     rintro rfl; have := back _ hD2; rw [h3] at this; cases this
   · rw [upd_ne]; exact b3
     rintro rfl; have := back _ t0; rw [h3] at this; cases this
   · rw [upd_ne _ _ (Ne.symm n2)]; exact x1 _ _ a1
   · rw [upd_ne _ _ m2]; exact x1 _ _ (a3 _ _ hb m1)

 have pick_ls : ∀ {c : Cx} {x : Ad} {k : Int} {bv : BV} {H : AH} {hd : Addr} {cl : Addr} {ns : List Int} {F : List (Addr × AObj)} {Z : Int → BV → Prop} (G : Gl c ((Mine.main.heap_1_39 c.w.params))) (h : LS x k bv H hd cl ns F Z) {limit : Int} (hl : 0 < limit ∧ limit ≤ 100), FN c 1 (.ref 232) [Rf hd, I limit] H (fun r H' => ∃ d, r = I d ∧ 0 ≤ d ∧ d < limit ∧ LS x k bv H' hd cl ns F Z) := by
  as_aux_lemma =>
   intro c x k bv H hd cl ns F Z G h limit hl
   exact (pick_ok G h.hs hl).mono fun r H' ⟨d, o, z1, z2, z3, z4, z5⟩ => ⟨d, z1, z2, z3, h.pick z4 z5⟩

 have some_ls : ∀ {c : Cx} {x : Ad} {k : Int} {bv : BV} {H : AH} {hd : Addr} {cl : Addr} {ns : List Int} {F : List (Addr × AObj)} {Z : Int → BV → Prop} (G : Gl c ((Mine.main.heap_1_39 c.w.params))) (h : LS x k bv H hd cl ns F Z) {lp : Addr} {ps : List Int} {w : Nat} (hlp : H lp = some (.list (ps.map I))) (nlp : lp ≠ hd) (hpl : 1 ≤ ps.length ∧ ps.length ≤ 10) (hw : w ≤ 10), FN c 2 (.ref 261) [Rf hd, Rf lp, IN w] H (fun r H' => ∃ (D : Addr) (us : List Int), r = Rf D ∧ us.length = w ∧ (∀ a ∈ us, a ∈ ps ∨ a = 0 ∨ a = 1) ∧ H D = none ∧ LS x k bv H' hd cl ns (F ++ [(D, .list (us.map I))]) Z) := by
  as_aux_lemma =>
   intro c x k bv H hd cl ns F Z G h lp ps w hlp nlp hpl hw
   exact (some_ok G h.hs hlp nlp hpl hw).mono fun r H' ⟨D, us, o, z1, z2, z3, z4, z5, z6, z7⟩ => ⟨D, us, z1, z5, z6, z3, by
     have hs := h.hs
     obtain ⟨q1, q2, q3, q4, a1, a2, a3, a4, a5, a6⟩ := hs
     have nc : cl ≠ D := ne_of a5 z3
     have hD : upd H hd o D = none := by rw [upd_ne _ _ z4]; exact z3
     have h2 : HS (upd H hd o) hd cl ns := by
       obtain ⟨p1, p2, p3, p4, b1, b2, b3, b4, b5, b6⟩ := z7
       rw [z2] at p4 b5
       exact ⟨p1, p2, p3, by rw [upd_ne _ _ (Ne.symm z4)] at p4; exact p4, b1, b2, b3, b4, by rw [upd_ne _ _ nc] at b5; exact b5, b6⟩
     rw [z2]
     exact (h.pick rfl h2).new hD (.inr ⟨_, rfl⟩)⟩

 have law_ok : ∀ {c : Cx} (G : Gl c ((Mine.main.heap_1_39 c.w.params))) {l : Addr} {vs : Array Value} (hT : c.T.IsList l vs) {ns0 : List Int} (hi : vs.toList.map er = ns0.map I) (hz : vs.size ≤ 63), FN c 12 (.ref 266) [Rf l] (fun _ => none) (fun r _ => r = .bool true) := by
  as_aux_lemma =>
   intro c G l vs hT ns0 hi hz
   refine FN.def G (f := 266) (by rfl) (by rfl) (names := ["script"]) (by rfl) (len1 fun _ => by rfl) (fun L => List.all_eq_true.mp (by rfl)) fun A L hA => ?_
   refine EX.split 6 Mid1 ?_ fun H1 m1 hMid => ?_
   · have hm : Has (bindA ((["script"] : List Str).zip [Rf l]) fun _ => none) [("script", Rf l)] := ⟨rfl, trivial⟩
     refine EX.setN hm <| EV.slice63 hT (by (exact om335 hz)) <| EV.name (hm.get (by rfl)) <| EV.int ⟨rfl, rfl, fun cl hcl m1 hm => ?_⟩
     have ec : (vs.toList.take 63).map er = (ns0.take 63).map I := by rw [List.map_take, hi, List.map_take]
     rw [ec]
     have ln : (ns0.take 63).length ≤ 63 := by rw [List.length_take]; (exact om336)
     generalize ns0.take 63 = ns at *
     have hc1 : upd (fun _ => none) cl (.list (ns.map I)) cl = some (.list (ns.map I)) := upd_self ..
     generalize upd (fun _ => none) cl (.list (ns.map I)) = H1 at *
     have hfm := fmod_rng (a := ns.sum) (b := 100003) (by decide)
     refine EX.setN hm <| EV.list (by simp) <| EVs.cons <| EV.name (hm.get (by rfl)) <| EVs.cons <| EV.int <| EVs.cons <| EV.int <| EVs.cons <| EV.bin <| EV.bin <| EV.sum G (by rfl) hA.1 <| EV.name (hm.get (by rfl)) ⟨cl, ns, rfl, hc1, EV.int ⟨_, BO.mod (by decide), EV.int ⟨_, BO.mul (by omega), EVs.nil ⟨by simp, fun hd hhd m1 hm => ?_⟩⟩⟩⟩
     have hs : HS (upd H1 hd (.list [Rf cl, I 0, I 0, I (ns.sum.fmod 100003 * 7)])) hd cl ns := ⟨0, 0, _, upd_self .., by decide, by (exact om337 ln), by (exact om338 hfm), by (exact om339 hfm), Ext.new hhd _ _ _ hc1, ln⟩
     generalize upd H1 hd (.list [Rf cl, I 0, I 0, I (ns.sum.fmod 100003 * 7)]) = H2 at *
     clear hc1 hcl hhd hfm ec
     refine EX.setN hm <| EV.make G (by rfl) (by rfl) (by rfl) (by rfl) (by rfl) (hA.le (by decide : 2 + 1 ≤ 11)) <| EV.str fun n dn hn hdn hlt => ?_
     have dne : dn ≠ n := Nat.ne_of_lt hlt
     have hn' : upd H2 dn (.ns []) n = none := by rw [upd_ne _ _ (Ne.symm dne)]; exact hn
     have x3 : Ext H2 (upd (upd H2 dn (.ns [])) n (.inst 144 dn)) := (Ext.new hdn _).trans (Ext.new hn' _)
     have y1 : upd (upd H2 dn (.ns [])) n (.inst 144 dn) n = some (.inst 144 dn) := upd_self ..
     have y2 : upd (upd H2 dn (.ns [])) n (.inst 144 dn) dn = some (.ns []) := by rw [upd_ne _ _ dne]; exact upd_self ..
     generalize upd (upd H2 dn (.ns [])) n (.inst 144 dn) = H3 at *
     refine (netinit_ok G y1 y2).mono fun r H4 ⟨e, li, lo, lc, a1, a2, a3, a4, a5, a6, a7, a8⟩ => ⟨e, fun m1 hm => ?_⟩
     have hs3 : HS H3 hd cl ns := hs.ext (D := dn) (fun b o hb _ => x3 b o hb) (by obtain ⟨_, _, _, q, _⟩ := hs; exact ne_of q hdn) (by obtain ⟨_, _, _, _, _, _, _, _, q, _⟩ := hs; exact ne_of q hdn)
     obtain ⟨nhd, ncd, nhi, nci, nhc, ncc⟩ : hd ≠ dn ∧ cl ≠ dn ∧ hd ≠ li ∧ cl ≠ li ∧ hd ≠ lc ∧ cl ≠ lc := by
       obtain ⟨_, _, _, q, _, _, _, _, q2, _⟩ := hs3
       refine ⟨?_, ?_, ne_of q a6, ne_of q2 a6, ne_of q a7, ne_of q2 a7⟩
       · rintro rfl; rw [y2] at q; cases q
       · rintro rfl; rw [y2] at q2; cases q2
     have hs4 : HS H4 hd cl ns := hs3.ext a8 nhd ncd
     clear hs hs3 x3 y1 y2 a8 a6 a7 hn hdn hn' dne hlt
     refine EX.setN hm <| EV.make G (by rfl) (by rfl) (by rfl) (by rfl) (by rfl) (hA.le (by decide : 2 + 1 ≤ 11)) <| EV.name (hm.get (by rfl)) fun g dg hg hdg hlt => ?_
     have dne : dg ≠ g := Nat.ne_of_lt hlt
     have hg' : upd H4 dg (.ns []) g = none := by rw [upd_ne _ _ (Ne.symm dne)]; exact hg
     have x5 : Ext H4 (upd (upd H4 dg (.ns [])) g (.inst 221 dg)) := (Ext.new hdg _).trans (Ext.new hg' _)
     have y1 : upd (upd H4 dg (.ns [])) g (.inst 221 dg) g = some (.inst 221 dg) := upd_self ..
     have y2 : upd (upd H4 dg (.ns [])) g (.inst 221 dg) dg = some (.ns []) := by rw [upd_ne _ _ dne]; exact upd_self ..
     generalize upd (upd H4 dg (.ns [])) g (.inst 221 dg) = H5 at *
     refine (gatesinit_ok G y1 y2).mono fun r H6 ⟨e, dm, dop, b1, b2, b3, b4, b5⟩ => ⟨e, fun m1 hm => ?_⟩
     have up : ∀ {a o}, H4 a = some o → H6 a = some o := fun {a o} h => b5 _ _ (x5 _ _ h) (ne_of h hdg)
     have raw : Raw ⟨n, dn, li, lo, lc, g, dg, dm, dop, 2⟩ 2 H6 [] := ⟨up a1, up a2, b1, b2, up a3, a5, up a4, b3, b4⟩
     have hs6 : HS H6 hd cl ns := by
       obtain ⟨p, q, s, h1, h2, h3, h4, h5, h6, h7⟩ := hs4
       exact ⟨p, q, s, up h1, h2, h3, h4, h5, up h6, h7⟩
     clear hs4 up x5 y1 y2 b1 b2 b3 b4 b5 a1 a2 a3 a4 hg hdg hg' dne hlt
     generalize hx : (⟨n, dn, li, lo, lc, g, dg, dm, dop, 2⟩ : Ad) = x at raw
     have hm : Has m1 [("g", Rf x.g), ("net", Rf x.n), ("hand", Rf hd)] := by subst hx; exact ⟨hm.get (by rfl), hm.get (by rfl), hm.get (by rfl), trivial⟩
     have nhd : hd ≠ x.dn := by subst hx; exact nhd
     have ncd : cl ≠ x.dn := by subst hx; exact ncd
     have nhi : hd ≠ x.li := by subst hx; exact nhi
     have nci : cl ≠ x.li := by subst hx; exact nci
     have nhc : hd ≠ x.lc := by subst hx; exact nhc
     have ncc : cl ≠ x.lc := by subst hx; exact ncc
     clear hx
     refine EX.setN hm <| EV.meth G <| EV.name (hm.get (by rfl)) ⟨_, _, _, _, _, 3, rfl, clsN, raw.hn, raw.hdn, by rfl, by rfl, by rfl, by rfl, hA.le (by decide), EVs.cons <| EV.str <| EVs.cons <| EV.bin <| EV.int <| EV.callF G (by rfl) (by rfl) (hA.le (by decide : 1 ≤ 11)) <| EVs.cons <| EV.name (hm.get (by rfl)) <| EVs.cons <| EV.int <| EVs.nil <|
       (pick_ok G hs6 (limit := 2) (by decide)).mono fun r H7 q9 => ?_⟩
     obtain ⟨d, o, z1, z2, z3, z4, z5⟩ := q9
     subst z1
     refine ⟨_, BO.add, EVs.nil ?_⟩
     obtain ⟨ni, hni⟩ : ∃ ni : Nat, 1 + d = (ni : Int) := ⟨(1 + d).toNat, by (exact om340 z2 z3)⟩
     rw [hni]
     have hni2 : ni = 1 ∨ ni = 2 := by (exact om341 z2 z3 hni)
     have raw := raw.keep hs6 (by decide) z4
     clear z2 z3 z4 hs6 hni
     refine (add_input_ok (x := x) (nm := "i") G raw.hn raw.hdn raw.hli (by decide) (by (exact om342 hni2))).mono fun r H8 q9 m2 hm => ?_
     obtain ⟨iA, d1, t1, e, c1, c2, c3, c4, c5, c6, c7, c8, c9, c10⟩ := q9
     subst e
     obtain ⟨p, q, s, h1, h2, h3, h4, h5, h6, h7⟩ := z5
     have hs8 : HS H8 hd cl ns := ⟨p, q, s, c10 _ _ h1 nhd nhi, h2, h3, h4, h5, c10 _ _ h6 ncd nci, h7⟩
     have k1 : iA ≠ hd ∧ d1 ≠ hd ∧ t1 ≠ hd := ⟨Ne.symm (ne_of h1 c1), Ne.symm (ne_of h1 c2), Ne.symm (ne_of h1 c3)⟩
     have k2 : iA ≠ x.lc ∧ d1 ≠ x.lc := ⟨Ne.symm (ne_of raw.hlc c1), Ne.symm (ne_of raw.hlc c2)⟩
     have k3 : iA ≠ x.li ∧ d1 ≠ x.li ∧ t1 ≠ x.li := ⟨Ne.symm (ne_of raw.hli c1), Ne.symm (ne_of raw.hli c2), Ne.symm (ne_of raw.hli c3)⟩
     have k4 : iA ≠ x.dn ∧ d1 ≠ x.dn ∧ t1 ≠ x.dn := ⟨Ne.symm (ne_of raw.hdn c1), Ne.symm (ne_of raw.hdn c2), Ne.symm (ne_of raw.hdn c3)⟩
     have raw := raw.input c8 c9 c10
     clear h1 h2 h3 h4 h5 h6 h7 c10 c1 c2 c3 c8 c9
     refine EX.setN hm <| EV.meth G <| EV.name (hm.get (by rfl)) ⟨_, _, _, _, _, 3, rfl, clsN, raw.hn, raw.hdn, by rfl, by rfl, by rfl, by rfl, hA.le (by decide), EVs.cons <| EV.str <| EVs.cons <| EV.int <| EVs.nil <|
       (add_input_ok (x := x) (nm := "d") (w := 3) G raw.hn raw.hdn raw.hli (by simp) (by decide)).mono fun r H9 q9 m3 hm => ?_⟩
     obtain ⟨pA, d2, t2, e, f1, f2, f3, f4, f5, f6, f7, f8, f9, f10⟩ := q9
     subst e
     obtain ⟨p, q, s, h1, h2, h3, h4, h5, h6, h7⟩ := hs8
     have hs9 : HS H9 hd cl ns := ⟨p, q, s, f10 _ _ h1 nhd nhi, h2, h3, h4, h5, f10 _ _ h6 ncd nci, h7⟩
     have j1 : pA ≠ hd ∧ d2 ≠ hd ∧ t2 ≠ hd := ⟨Ne.symm (ne_of h1 f1), Ne.symm (ne_of h1 f2), Ne.symm (ne_of h1 f3)⟩
     have j2 : pA ≠ x.lc ∧ d2 ≠ x.lc := ⟨Ne.symm (ne_of raw.hlc f1), Ne.symm (ne_of raw.hlc f2)⟩
     have c5 := f10 _ _ c5 k4.1 k3.1
     have c6 := f10 _ _ c6 k4.2.1 k3.2.1
     have c7 := f10 _ _ c7 k4.2.2 k3.2.2
     have raw := raw.input f8 f9 f10
     have e5 : (2 : Int) + ni + ((3 : Nat) : Int) = 5 + (ni : Int) := by (exact om343)
     rw [e5] at raw
     refine EX.nil ⟨rfl, { x with k0 := 5 + (ni : Int) }, hd, cl, ns, ni, t1, d1, t2, d2, iA, pA, hni2, rfl, ⟨raw.st (by (exact om344)), hs9, nhc, ncc, fun p hp => ?_, ZIn.mono, bv0_in⟩, hm.get (by rfl), hm.get (by rfl), hm.get (by rfl), hm.get (by rfl), hm.get (by rfl), trivial⟩
     simp only [F0, List.mem_cons, List.mem_nil_iff, or_false] at hp
     rcases hp with rfl | rfl | rfl | rfl | rfl | rfl | rfl
     · exact ⟨raw.hli, Ne.symm nhi, .inr ⟨_, rfl, Ne.symm raw.nli⟩⟩
     · exact ⟨c7, k1.2.2, .inl ⟨_, rfl⟩⟩
     · exact ⟨c6, k1.2.1, .inr ⟨_, rfl, k2.2⟩⟩
     · exact ⟨f7, j1.2.2, .inl ⟨_, rfl⟩⟩
     · exact ⟨f6, j1.2.1, .inr ⟨_, rfl, j2.2⟩⟩
     · exact ⟨c5, k1.1, .inr ⟨_, rfl, k2.1⟩⟩
     · exact ⟨f5, j1.1, .inr ⟨_, rfl, j2.1⟩⟩
   refine EX.split 8 Mid2 ?_ fun H2 m2 hMid2 => ?_
   · clear hi hT hz
     obtain ⟨x, hd, cl, ns, ni, t1, d1, t2, d2, iA, pA, hni, hk0, L1, hm⟩ := hMid
     refine EX.setN hm <| EV.cmp <| EV.callF G (by rfl) (by rfl) (hA.le (by decide : 1 ≤ 11)) <| EVs.cons <| EV.name (hm.get (by rfl)) <| EVs.cons <| EV.int <| EVs.nil <| (pick_ls G L1 (limit := 2) (by decide)).mono fun r H3 q9 => ?_
     obtain ⟨d, e, _, _, L2⟩ := q9
     subst e
     refine EV.int ⟨_, CO.eq, fun m3 hm => ?_⟩
     generalize decide (d = 1) = sg at hm
     clear L1
     refine EX.setN hm <| EV.bin <| EV.int <| EV.bin <| EV.int <| EV.callF G (by rfl) (by rfl) (hA.le (by decide : 1 ≤ 11)) <| EVs.cons <| EV.name (hm.get (by rfl)) <| EVs.cons <| EV.int <| EVs.nil <| (pick_ls G L2 (limit := 2) (by decide)).mono fun r H4 q9 => ?_
     obtain ⟨d, e, b1, b2, L3⟩ := q9
     subst e
     refine ⟨_, BO.mul (by decide), _, BO.sub, fun m4 hm => ?_⟩
     have hst : 1 - 2 * d = 1 ∨ 1 - 2 * d = -1 := by (exact om345 b1 b2)
     generalize 1 - 2 * d = step at hst hm
     clear L2 b1 b2
     refine EX.setN hm <| EV.bin <| EV.callF G (by rfl) (by rfl) (hA.le (by decide : 1 ≤ 11)) <| EVs.cons <| EV.name (hm.get (by rfl)) <| EVs.cons <| EV.int <| EVs.nil <| (pick_ls G L3 (limit := 5) (by decide)).mono fun r H5 q9 => ?_
     obtain ⟨d, e, b1, b2, L4⟩ := q9
     subst e
     refine EV.int ⟨_, BO.sub, fun m5 hm => ?_⟩
     have hbs : -2 ≤ d - 2 ∧ d - 2 ≤ 2 := by (exact om346 b1 b2)
     generalize d - 2 = base at hbs hm
     clear L3 b1 b2
     refine EX.setN hm <| EV.bin <| EV.int <| EV.callF G (by rfl) (by rfl) (hA.le (by decide : 1 ≤ 11)) <| EVs.cons <| EV.name (hm.get (by rfl)) <| EVs.cons <| EV.int <| EVs.nil <| (pick_ls G L4 (limit := 2) (by decide)).mono fun r H6 q9 => ?_
     obtain ⟨d, e, b1, b2, L5⟩ := q9
     subst e
     refine ⟨_, BO.add, fun m6 hm => ?_⟩
     obtain ⟨w, hw⟩ : ∃ w : Nat, 1 + d = (w : Int) := ⟨(1 + d).toNat, by (exact om340 b1 b2)⟩
     rw [hw] at hm
     have hw2 : 1 ≤ w ∧ w ≤ 2 := by (exact om347 b1 b2 hw)
     clear L4 b1 b2 hw
     have hpool : ∀ {us : List Int}, (∀ a ∈ us, a ∈ rngI (2 + ni) 3 ∨ a = 0 ∨ a = 1) → ZNB us (5 + ni) bv0 := fun h a ha => by
       rcases h a ha with q | q | q
       · have := rngI_mem q; (exact om348 this)
       · (exact om349 q)
       · (exact om350 q)
     -- vector
     refine EX.setN hm <| EV.callF G (by rfl) (by rfl) (hA.le (by decide : 2 ≤ 11)) <| EVs.cons <| EV.name (hm.get (by rfl)) <| EVs.cons <| EV.name (hm.get (by rfl)) <| EVs.cons <| EV.bin <| EV.int <| EV.callF G (by rfl) (by rfl) (hA.le (by decide : 1 ≤ 11)) <| EVs.cons <| EV.name (hm.get (by rfl)) <| EVs.cons <| EV.int <| EVs.nil <|
       (pick_ls G L5 (limit := 3) (by decide)).mono fun r H7 q9 => ?_
     obtain ⟨d, e, b1, b2, L6⟩ := q9
     subst e
     refine ⟨_, BO.add, EVs.nil ?_⟩
     obtain ⟨vl, hvl⟩ : ∃ w : Nat, 1 + d = (w : Int) := ⟨(1 + d).toNat, by (exact om351 b1 b2)⟩
     rw [hvl]
     have hvl2 : 1 ≤ vl ∧ vl ≤ 3 := by (exact om352 b1 b2 hvl)
     refine (some_ls G L6 (L6.at 6 rfl) (L6.atn 6 rfl) (by rw [rngI_len]; decide) (by (exact om353 b1 b2 hvl))).mono fun r H8 q9 m7 hm => ?_
     obtain ⟨vA, vec, e, lv, mv, _, L7⟩ := q9
     subst e
     have L7 := L7.add ZNB.mono (hpool mv)
     clear L5 L6 b1 b2 hvl mv
     -- part
     refine EX.setN hm <| EV.callF G (by rfl) (by rfl) (hA.le (by decide : 2 ≤ 11)) <| EVs.cons <| EV.name (hm.get (by rfl)) <| EVs.cons <| EV.name (hm.get (by rfl)) <| EVs.cons <| EV.name (hm.get (by rfl)) <| EVs.nil <|
       (some_ls (w := w) G L7 (L7.at 6 rfl) (L7.atn 6 rfl) (by rw [rngI_len]; decide) (by (exact om354 hw2))).mono fun r H9 q9 m8 hm => ?_
     obtain ⟨qA, part, e, lp, mp, _, L8⟩ := q9
     subst e
     have L8 := L8.add ZNB.mono (hpool mp)
     clear L7 mp
     -- marks
     refine EX.setN hm <| EV.callF G (by rfl) (by rfl) (hA.le (by decide : 2 ≤ 11)) <| EVs.cons <| EV.name (hm.get (by rfl)) <| EVs.cons <| EV.list (by simp) <| EVs.cons <| EV.int <| EVs.nil ⟨by simp, fun zA hzA => ?_⟩
     have L9 := L8.new hzA (o := .list [I 0]) (.inr ⟨_, rfl⟩)
     generalize upd H9 zA (.list [I 0]) = H10 at *
     refine EVs.cons <| EV.len G (by rfl) <| EV.name (hm.get (by rfl)) ⟨vA, _, rfl, L9.at 7 rfl, by rw [List.length_map]; (exact om355 hvl2 lv), EVs.nil ?_⟩
     rw [List.length_map, lv]
     refine (some_ls G L9 (ps := [0]) (L9.at 9 rfl) (L9.atn 9 rfl) (by decide) (by (exact om356 hvl2 lv))).mono fun r H11 q9 m9 hm => ?_
     obtain ⟨mA, marks, e, lm, mm, _, L10⟩ := q9
     subst e
     have L10 := L10.add ZNB.mono (k := 5 + (ni : Int)) (fun a ha => by
       rcases mm a ha with q | q | q
       · cases List.mem_singleton.mp q; (exact om357)
       · (exact om349 q)
       · (exact om350 q))
     have L10 := L10.sub (F' := F1 x ni t1 d1 t2 d2 iA pA vA qA mA vec part marks) (fun p hp => by
       rcases List.mem_append.mp hp with q | q
       · exact List.mem_append_left _ (List.mem_append_left _ q)
       · exact List.mem_append_right _ q)
     clear L8 L9 mm hzA
     -- enable
     refine EX.setN hm <| EV.item <| EV.list (by simp) <| EVs.cons <| EV.int <| EVs.cons <| EV.item <| EV.name (hm.get (by rfl)) <| EV.int ⟨pA, _, 0, I (2 + (ni : Int) + ((0 : Nat) : Int)), rfl, rfl, L10.at 6 rfl, by decide, by decide, rfl, EVs.cons <| EV.int <| EVs.cons <|
       EV.meth G <| EV.name (hm.get (by rfl)) ⟨_, _, _, _, _, 4, rfl, clsG, L10.st.hg, L10.st.hdg, by rfl, by rfl, by rfl, by rfl, hA.le (by decide), EVs.cons <| EV.item <| EV.name (hm.get (by rfl)) <| EV.int ⟨pA, _, 2, I (2 + (ni : Int) + ((2 : Nat) : Int)), rfl, rfl, L10.at 6 rfl, by decide, by decide, rfl,
         EVs.nil <| (inv_ok G L10.st (a := 2 + (ni : Int) + ((2 : Nat) : Int)) ⟨by (exact om358), by (exact om359)⟩ (by (exact om360 hni hst))).mono fun r H12 q => EVs.nil ⟨by simp, fun eA heA => ?_⟩⟩⟩⟩
     obtain ⟨o, k2, bv2, rfl, s2, o0, o1, _⟩ := q
     have L12 := (L10.step s2).new heA (o := .list [I 1, I (2 + (ni : Int) + ((0 : Nat) : Int)), I 0, I o]) (.inr ⟨_, rfl⟩)
     have u2 := s2.up; have l2 := s2.le
     have heA2 : upd H12 eA (.list [I 1, I (2 + (ni : Int) + ((0 : Nat) : Int)), I 0, I o]) eA = some (.list (([1, 2 + (ni : Int) + ((0 : Nat) : Int), 0, o] : List Int).map I)) := upd_self ..
     have hes : ∀ a ∈ ([1, 2 + (ni : Int) + ((0 : Nat) : Int), 0, o] : List Int), 0 ≤ a ∧ a < k2 := fun a ha => by
       simp only [List.mem_cons, List.mem_nil_iff, or_false] at ha
       rcases ha with rfl | rfl | rfl | rfl <;> (first | exact om361 o0 o1 u2 l2 | exact om362 u2 l2 | exact om363 o0 o1 | exact om364 o0 o1)
     generalize upd H12 eA (.list [I 1, I (2 + (ni : Int) + ((0 : Nat) : Int)), I 0, I o]) = H13 at *
     have hle : ([1, 2 + (ni : Int) + ((0 : Nat) : Int), 0, o] : List Int).length = 4 := rfl
     generalize ([1, 2 + (ni : Int) + ((0 : Nat) : Int), 0, o] : List Int) = es at *
     have neA := L12.atn 10 rfl
     have hs2 := s2.st
     refine EV.callF G (by rfl) (by rfl) (hA.le (by decide : 1 ≤ 11)) <| EVs.cons <| EV.name (hm.get (by rfl)) <| EVs.cons <| EV.int <| EVs.nil <| (pick_ok G L12.hs (limit := 4) (by decide)).mono fun r H14 q9 => ?_
     obtain ⟨d, oo, e, b1, b2, b3, b4⟩ := q9
     subst e
     have L14 := L12.pick b3 b4
     obtain ⟨en, he1, he2, hem, _⟩ := atI (ns := es) (i := d.toNat) (by (exact om365 hle b1 b2))
     rw [show ((d.toNat : Nat) : Int) = d by (exact om366 b1 b2)] at he2
     refine ⟨eA, _, d, _, rfl, rfl, by rw [b3, upd_ne _ _ neA]; exact heA2, b1, by (exact om367 b1 b2), he2, fun m10 hm => ?_⟩
     have L14 := (L14.sub (F' := F1 x ni t1 d1 t2 d2 iA pA vA qA mA vec part marks) fun p hp => List.mem_append_left _ hp).add (ZNB.mono (ns := [en])) (fun a ha => by cases List.mem_singleton.mp ha; exact hes en hem)
     exact EX.nil ⟨rfl, x, hd, cl, ns, ni, t1, d1, t2, d2, iA, pA, vA, qA, mA, sg, step, base, w, vec, part, marks, en, k2, bv2, ⟨hni, hk0, hst, hbs, hw2, by (exact om368 hvl2 lv lm), lp, by (exact om369 lv lm), (hes en hem).1, by (exact om370 hni hst u2 l2)⟩, L14,
       hm.get (by rfl), hm.get (by rfl), hm.get (by rfl), hm.get (by rfl), hm.get (by rfl), hm.get (by rfl), hm.get (by rfl), hm.get (by rfl), hm.get (by rfl), hm.get (by rfl), hm.get (by rfl), hm.get (by rfl), hm.get (by rfl), trivial⟩
   refine EX.split 4 Mid3 ?_ fun H3 m3 hMid3 => ?_
   · clear hi hT hz hMid
     obtain ⟨x, hd, cl, ns, ni, t1, d1, t2, d2, iA, pA, vA, qA, mA, sg, step, base, w, vec, part, marks, en, k, bv, M, L1, hm⟩ := hMid2
     obtain ⟨⟨⟨⟨zin, zv⟩, zp⟩, zm⟩, ze⟩ := L1.z
     have hkk := M.hkk
     have hk0 : 0 < k := by have := L1.st.kpos; (exact om371 hkk this)
     have hw := M.hw; have hvec := M.hvec
     refine EX.setN hm <| EV.callF G (by rfl) (by rfl) (hA.le (by decide : 8 ≤ 11)) <| EVs.cons <| EV.name (hm.get (by rfl)) <| EVs.cons <| EV.name (hm.get (by rfl)) <| EVs.cons <| EV.name (hm.get (by rfl)) <| EVs.cons <| EV.name (hm.get (by rfl)) <| EVs.cons <| EV.name (hm.get (by rfl)) <| EVs.cons <| EV.name (hm.get (by rfl)) <|
       EVs.cons <| EV.len G (by rfl) <| EV.name (hm.get (by rfl)) ⟨vA, _, rfl, L1.at 7 rfl, by rw [List.length_map]; (exact om372 hvec), EVs.nil ?_⟩
     rw [List.length_map]
     refine (place_ok G L1.st (w := w) (whole := vec.length) (ins := rngI 2 ni) (L1.at 5 rfl) (L1.atl 5 rfl) zin.ins (by rw [rngI_len]; exact M.hni) M.hst hw hvec (by (exact om373 hkk hk0))).mono fun r H4 q9 m4 hm => ?_
     obtain ⟨D, RW, k2, bv2, e, s2, h0, nD, hR, hRl, comp⟩ := q9
     subst e
     have L2 := L1.step s2
     have u2 := s2.up; have l2 := s2.le
     have elow : lowOf sg (rngI 2 ni) bv base step = lowOf sg (rngI 2 ni) bv2 base step := funext (lowOf_congr zin.ins s2.old)
     rw [elow] at hR comp
     obtain ⟨⟨⟨⟨zin, zv⟩, zp⟩, zm⟩, ze⟩ := L2.z
     clear L1 elow s2
     -- read
     refine EX.setN hm <| EV.callF G (by rfl) (by rfl) (hA.le (by decide : 8 ≤ 11)) <| EVs.cons <| EV.name (hm.get (by rfl)) <| EVs.cons <| EV.name (hm.get (by rfl)) <| EVs.cons <| EV.name (hm.get (by rfl)) <| EVs.cons <| EV.name (hm.get (by rfl)) <| EVs.nil <|
       (read_ok G L2.st (w := w) (L2.at 7 rfl) (L2.atl 7 rfl) zv hR nD hRl hw (by (exact om374 hvec)) comp (by (exact om375 hkk hk0 u2 l2))).mono fun r H5 q9 m5 hm => ?_
     obtain ⟨aR, uR, k3, bv3, e, s3, g0, gn, gD, gl, gsp⟩ := q9
     subst e
     have u3 := s3.up; have l3 := s3.le
     have hR := hR.mono L2.st nD s3
     have L3 := L2.nets2 s3 g0 gn gD
     have zr : ZRead sg (rngI 2 ni) base step vec uR k3 bv3 := ⟨ZNB.mono _ _ _ _ l3 s3.old zin.ins, ZNB.mono _ _ _ _ l3 s3.old zv, by (exact om376 hkk hk0 hw u2 l2 gl u3 l3), gsp.congr fun p r _ => by rw [lowOf_congr zin.ins s3.old, s3.old _ _ (zv.getD (by (exact om377 hkk hk0 u2 l2)) _)]⟩
     have L3 := L3.add ZRead.mono zr
     have elow : lowOf sg (rngI 2 ni) bv2 base step = lowOf sg (rngI 2 ni) bv3 base step := funext (lowOf_congr zin.ins s3.old)
     rw [elow] at hR comp
     obtain ⟨⟨⟨⟨⟨zin, zv⟩, zp⟩, zm⟩, ze⟩, _⟩ := L3.z
     clear L2 elow s3 g0 gn gD gsp zr
     -- write
     refine EX.setN hm <| EV.callF G (by rfl) (by rfl) (hA.le (by decide : 8 ≤ 11)) <| EVs.cons <| EV.name (hm.get (by rfl)) <| EVs.cons <| EV.name (hm.get (by rfl)) <| EVs.cons <| EV.name (hm.get (by rfl)) <| EVs.cons <| EV.name (hm.get (by rfl)) <| EVs.cons <| EV.name (hm.get (by rfl)) <| EVs.nil <|
       (write_ok G L3.st (L3.at 7 rfl) (L3.atl 7 rfl) zv (L3.at 8 rfl) (L3.atl 8 rfl) zp (ze en (List.mem_singleton.mpr rfl)) hR nD hRl (by rw [M.hpart]; exact hw) (by (exact om374 hvec)) (by rw [M.hpart]; exact comp) (by (exact om378 hkk hk0 hw u2 l2 gl u3 l3))).mono fun r H6 q9 m6 hm => ?_
     obtain ⟨aW, uW, k4, bv4, e, s4, g0, gn, gD, gl2, gsp⟩ := q9
     subst e
     have u4 := s4.up; have l4 := s4.le
     have hR := hR.mono L3.st nD s4
     have L4 := L3.nets2 s4 g0 gn gD
     have e5 := (ze en (List.mem_singleton.mpr rfl)).2
     have zr : ZWrite sg (rngI 2 ni) base step vec part en uW k4 bv4 := ⟨ZNB.mono _ _ _ _ l4 s4.old zin.ins, ZNB.mono _ _ _ _ l4 s4.old zv, ZNB.mono _ _ _ _ l4 s4.old zp, by (exact om379 u4 l4 e5), by (exact om380 hkk hk0 hw u2 l2 gl u3 l3 u4 l4), gsp.congr fun p r _ => by
       rw [lowOf_congr zin.ins s4.old, s4.old _ _ (zv.getD (by (exact om376 hkk hk0 hw u2 l2 gl u3 l3)) _), s4.old _ _ (zp.getD (by (exact om376 hkk hk0 hw u2 l2 gl u3 l3)) _), s4.old _ _ e5]⟩
     have L4 := L4.add ZWrite.mono zr
     have elow : lowOf sg (rngI 2 ni) bv3 base step = lowOf sg (rngI 2 ni) bv4 base step := funext (lowOf_congr zin.ins s4.old)
     rw [elow] at hR comp
     obtain ⟨⟨⟨⟨⟨⟨zin, zv⟩, zp⟩, zm⟩, ze⟩, _⟩, _⟩ := L4.z
     clear L3 elow s4 g0 gn gD gsp zr e5
     -- mark
     refine EX.setN hm <| EV.callF G (by rfl) (by rfl) (hA.le (by decide : 8 ≤ 11)) <| EVs.cons <| EV.name (hm.get (by rfl)) <| EVs.cons <| EV.name (hm.get (by rfl)) <| EVs.cons <| EV.name (hm.get (by rfl)) <| EVs.cons <| EV.name (hm.get (by rfl)) <| EVs.cons <| EV.name (hm.get (by rfl)) <| EVs.nil <|
       (mark_ok G L4.st (w := w) (L4.at 9 rfl) (L4.atl 9 rfl) zm (ze en (List.mem_singleton.mpr rfl)) hR nD hRl hw (by rw [M.hmarks]; (exact om356 hvec gl2)) (by rw [M.hmarks]; exact comp) (by (exact om381 hkk hk0 hw u2 l2 gl u3 l3 u4 l4))).mono fun r H7 q9 m7 hm => ?_
     obtain ⟨aM, uM, k5, bv5, e, s5, g0, gn, gD, gl3, gsp⟩ := q9
     subst e
     have u5 := s5.up; have l5 := s5.le
     have L5 := L4.nets2 s5 g0 gn gD
     have e5 := (ze en (List.mem_singleton.mpr rfl)).2
     have zr : ZMark sg (rngI 2 ni) base step marks w en uM k5 bv5 := ⟨ZNB.mono _ _ _ _ l5 s5.old zin.ins, ZNB.mono _ _ _ _ l5 s5.old zm, by (exact om379 u5 l5 e5), by (exact om382 hkk hk0 hw u2 l2 gl u3 l3 u4 l4 u5 l5), gsp.congr fun p r _ => by
       rw [lowOf_congr zin.ins s5.old, s5.old _ _ (zm.getD (by (exact om380 hkk hk0 hw u2 l2 gl u3 l3 u4 l4)) _), s5.old _ _ e5]⟩
     have L5 := L5.add ZMark.mono zr
     exact EX.nil ⟨rfl, x, hd, cl, ns, ni, t1, d1, t2, d2, iA, pA, vA, qA, mA, sg, step, base, w, vec, part, marks, en, k, k5, bv5, aR, aW, aM, uR, uW, uM, M, ⟨gl, gl2, gl3.trans M.hmarks, by (exact om383 hkk hk0 hw u2 l2 gl u3 l3 u4 l4 u5 l5)⟩, L5,
       hm.get (by rfl), hm.get (by rfl), hm.get (by rfl), hm.get (by rfl), hm.get (by rfl), hm.get (by rfl), hm.get (by rfl), hm.get (by rfl), hm.get (by rfl), hm.get (by rfl), hm.get (by rfl), hm.get (by rfl), hm.get (by rfl), hm.get (by rfl), hm.get (by rfl), hm.get (by rfl), trivial⟩
   refine EX.split 7 Mid4 ?_ fun H4 m4 hMid4 => ?_
   · clear hi hT hz hMid hMid2
     obtain ⟨x, hd, cl, ns, ni, t1, d1, t2, d2, iA, pA, vA, qA, mA, sg, step, base, w, vec, part, marks, en, k00, k, bv, aR, aW, aM, uR, uW, uM, M, N, L1, hm⟩ := hMid3
     have hkk := N.hkk
     have hk0 : 2 ≤ k := L1.st.kpos
     have hw := M.hw; have hvec := M.hvec
     refine EX.setN hm <| EV.bin <| EV.callF G (by rfl) (by rfl) (hA.le (by decide : 1 ≤ 11)) <| EVs.cons <| EV.name (hm.get (by rfl)) <| EVs.cons <| EV.int <| EVs.nil <| (pick_ls G L1 (limit := 5) (by decide)).mono fun r H5 q9 => ?_
     obtain ⟨d, e, b1, b2, L2⟩ := q9
     subst e
     refine EV.int ⟨_, BO.sub, fun m5 hm => ?_⟩
     have hfb : -2 ≤ d - 2 ∧ d - 2 ≤ 2 := by (exact om346 b1 b2)
     generalize d - 2 = fst at hm hfb
     clear L1 b1 b2
     have hf5 : m5 "first" = some (I fst) := hm.get (by rfl)
     refine EX.cons <| EX.setcompR G (by rfl) hA.1 <| EV.bin <| EV.int <| EV.callF G (by rfl) (by rfl) (hA.le (by decide : 1 ≤ 11)) <| EVs.cons <| EV.name (hm.get (by rfl)) <| EVs.cons <| EV.int <| EVs.nil <| (pick_ls G L2 (limit := 3) (by decide)).mono fun r H6 q9 => ?_
     obtain ⟨d, e, b1, b2, L3⟩ := q9
     subst e
     obtain ⟨n, hn⟩ : ∃ w : Nat, 1 + d = (w : Int) := ⟨(1 + d).toNat, by (exact om351 b1 b2)⟩
     refine ⟨_, BO.add, n, fun i ys H' => H' = H6 ∧ ys = (rngI fst i).map I, by rw [hn], by (exact om384 b1 b2 hn), fun i ys H' ⟨_, e⟩ => by rw [e, List.length_map, rngI_len], ⟨rfl, rfl⟩, fun C cl' i ys H7 hi q9 => ?_, fun ys H7 D q9 hD => ?_⟩
     obtain ⟨e1, e2⟩ := q9
     rotate_left 1
     obtain ⟨e1, e2⟩ := q9
     rotate_right 1
     · exact EV.bin <| EV.name hf5 <| EV.name (by rfl) ⟨_, BO.add, e1, by rw [e2, rngI_succ, List.map_append]; rfl⟩
     have e1 := e1.symm; subst e1 e2
     refine EX.push hm fun m6 hm => ?_
     have L4 := L3.new hD (o := .list ((rngI fst n).map I)) (.inr ⟨_, rfl⟩)
     generalize upd H6 D (.list ((rngI fst n).map I)) = H7 at *
     have hvl : (rngI fst n).length = n := rngI_len
     have hvn : (rngI fst n).Nodup := rngI_nodup
     have hn2 : 1 ≤ n ∧ n ≤ 3 := by (exact om385 b1 b2 hn hvl)
     have hvb : ∀ v ∈ rngI fst n, -20 ≤ v ∧ v ≤ 20 := fun v hv => by have := rngI_mem hv; (exact om386 hfb b1 b2 hn hvl this)
     generalize rngI fst n = vals at *
     clear L2 L3 b1 b2 hD hn hf5
     -- the other way round
     let N5 : List (Str × Value) := [("marked_bits", Rf aM), ("put_bits_in", Rf aW), ("picked_bits", Rf aR), ("enable", I en), ("marks", Rf mA), ("part", Rf qA), ("vector", Rf vA), ("wide", IN w), ("base", I base), ("step", I step), ("signed", .bool sg), ("pool", Rf pA), ("index", Rf iA), ("g", Rf x.g), ("net", Rf x.n), ("hand", Rf hd)]
     refine EX.cons <| EX.mono (Q := fun f H' m' => f = .next ∧ ∃ (valA : Addr) (vals : List Int), vals.length = n ∧ vals.Nodup ∧ (∀ v ∈ vals, -20 ≤ v ∧ v ≤ 20) ∧ LS x k bv H' hd cl ns (F2 x ni t1 d1 t2 d2 iA pA vA qA mA vec part marks aR aW aM uR uW uM ++ [(valA, .list (vals.map I))]) (Z3 sg ni step base w vec part marks en uR uW uM) ∧ Has m' (("values", Rf valA) :: N5)) ?_ ?_
     · refine EX.ite <| IT.cmp <| EV.callF G (by rfl) (by rfl) (hA.le (by decide : 1 ≤ 11)) <| EVs.cons <| EV.name (hm.get (by rfl)) <| EVs.cons <| EV.int <| EVs.nil <| (pick_ls G L4 (limit := 2) (by decide)).mono fun r H8 q9 => ?_
       obtain ⟨d, e, b1, b2, L5⟩ := q9
       subst e
       refine EV.int ⟨_, CO.eq, ite_intro (fun _ => ?_) (fun _ => EX.nil ⟨rfl, D, vals, hvl, hvn, hvb, L5, hm.1, hm.2.2⟩)⟩
       refine EX.cons <| EX.set <| EV.sliceRev <| EV.name (hm.get (by rfl)) <| EV.neg <| EV.int ⟨_, rfl, D, _, rfl, rfl, L5.at 13 rfl, by rw [List.length_map]; (exact om387 hn2 hvl), fun D2 hD2 => EX.nil ⟨rfl, D2, vals.reverse, by simp [hvl], List.pairwise_reverse.mpr (List.Pairwise.imp (fun h => Ne.symm h) hvn), (fun v hv => hvb v (List.mem_reverse.mp hv)), ?_, mset_self .., hm.2.2.set⟩⟩
       rw [← List.map_reverse]
       refine (L5.new hD2 (.inr ⟨_, rfl⟩)).sub fun p hp => ?_
       rcases List.mem_append.mp hp with q | q
       · exact List.mem_append_left _ (List.mem_append_left _ q)
       · exact List.mem_append_right _ q
     rintro f H8 m7 ⟨rfl, valA, vals, hvl, hvn, hvb, L5, hm⟩
     obtain ⟨⟨⟨⟨⟨⟨⟨zin, zv⟩, zp⟩, zm⟩, ze⟩, _⟩, _⟩, _⟩ := L5.z
     clear L4
     -- hits
     refine EX.setN hm <| EV.callF G (by rfl) (by rfl) (hA.le (by decide : 7 ≤ 11)) <| EVs.cons <| EV.name (hm.get (by rfl)) <| EVs.cons <| EV.name (hm.get (by rfl)) <| EVs.cons <| EV.name (hm.get (by rfl)) <| EVs.cons <| EV.name (hm.get (by rfl)) <| EVs.nil <|
       (hits_ok G L5.st (sg := sg) (L5.at 5 rfl) (L5.atl 5 rfl) (L5.at 13 rfl) (L5.atl 13 rfl) zin.ins (by rw [rngI_len]; exact M.hni) (by (exact om388 hn2 (by assumption) hvl)) (by (exact om389 hkk hk0))).mono fun r H9 q9 m8 hm => ?_
     obtain ⟨hA', hs, k2, bv2, e, s2, g0, gn, gD, gl, gsp⟩ := q9
     subst e
     have u2 := s2.up; have l2 := s2.le
     have zh : ZHits sg (rngI 2 ni) vals hs k2 bv2 := ⟨ZNB.mono _ _ _ _ l2 s2.old zin.ins, gsp.congr fun j r _ => by rw [ivOf_congr zin.ins s2.old]⟩
     have L6 := (L5.nets2 s2 g0 gn gD).add ZHits.mono zh
     obtain ⟨⟨⟨⟨⟨⟨⟨⟨zin, zv⟩, zp⟩, zm⟩, ze⟩, _⟩, _⟩, _⟩, _⟩ := L6.z
     have zhs : ZNB hs k2 bv2 := gsp.nb
     clear L5 s2 g0 gn gD gsp zh
     -- memory
     have hh8 : m8 "hand" = some (Rf hd) := hm.get (by rfl)
     have hp8 : m8 "pool" = some (Rf pA) := hm.get (by rfl)
     have hw8 : m8 "wide" = some (IN w) := hm.get (by rfl)
     refine EX.cons <| EX.setcompL hA.1 <| EV.name (hm.get (by rfl)) ⟨valA, _, fun i ys H' => ∃ ws : WL, ys = ws.map (fun q => Rf q.1) ∧ ws.length = i ∧ LS x k2 bv2 H' hd cl ns (F2 x ni t1 d1 t2 d2 iA pA vA qA mA vec part marks aR aW aM uR uW uM ++ [(valA, .list (vals.map I))] ++ [(hA', .list (hs.map I))] ++ wsF ws) (fun k bv => Z3 sg ni step base w vec part marks en uR uW uM k bv ∧ ZHits sg (rngI 2 ni) vals hs k bv) ∧ ZWB ws w k2 bv2,
       rfl, by rw [List.length_map]; (exact om390 hn2 (by assumption) hvl gl), fun i ys H' ⟨ws, e1, e2, e3, e4⟩ => ⟨e3.at 13 rfl, by rw [e1, List.length_map]; exact e2⟩, ⟨[], rfl, rfl, L6.sub (fun p hp => by
         rcases List.mem_append.mp hp with q | q
         · exact q
         · cases q), fun q hq => nomatch hq⟩, fun C cl' i v ys H10 hv q9 => ?_, fun ys H10 D q9 hD => ?_⟩
     obtain ⟨ws, e1, e2, L7, e4⟩ := q9
     rotate_left 1
     obtain ⟨ws, e1, e2, L7, zwb⟩ := q9
     rotate_right 1
     · refine EV.callF G (by rfl) (by rfl) (hA.le (by decide : 2 ≤ 11)) <| EVs.cons <| EV.name hh8 <| EVs.cons <| EV.name hp8 <| EVs.cons <| EV.name hw8 <| EVs.nil <|
         (some_ls (w := w) G L7 (L7.at 6 rfl) (L7.atn 6 rfl) (by rw [rngI_len]; decide) (by (exact om354 hw))).mono fun r H11 q9 => ?_
       obtain ⟨D, us, e, lu, mu, _, L8⟩ := q9
       refine ⟨ws ++ [(D, us)], by rw [e1, e]; simp, by simp [e2], L8.sub fun p hp => ?_, fun q hq => ?_⟩
       · rw [wsF, List.map_append] at hp
         rw [List.append_assoc]; exact hp
       · rcases List.mem_append.mp hq with hq | hq
         · exact e4 q hq
         · cases List.mem_singleton.mp hq
           refine ⟨lu, fun a ha => ?_⟩
           have := zin.1
           rcases mu a ha with q | q | q
           · have := rngI_mem q; (exact om391 hkk hk0 hn2 (by assumption) hvl gl u2 l2 (by assumption) this)
           · (exact om392 hkk hk0 hn2 (by assumption) hvl gl u2 l2 q)
           · (exact om393 hkk hk0 hn2 (by assumption) hvl gl u2 l2 q)
     clear hh8 hp8 hw8 L6
     subst e1
     rw [List.length_map] at e2
     refine EX.push hm fun m9 hm => ?_
     have L8 := (L7.new hD (o := .list (ws.map fun q => Rf q.1)) (.inr ⟨_, rfl⟩)).sub (F' := F2 x ni t1 d1 t2 d2 iA pA vA qA mA vec part marks aR aW aM uR uW uM ++ [(valA, .list (vals.map I))] ++ [(hA', .list (hs.map I))] ++ [(D, .list (ws.map fun q => Rf q.1))] ++ wsF ws) fun p hp => by
       rcases List.mem_append.mp hp with q | q
       · rcases List.mem_append.mp q with q | q
         · exact List.mem_append_left _ (List.mem_append_left _ q)
         · exact List.mem_append_right _ q
       · exact List.mem_append_left _ (List.mem_append_right _ q)
     generalize upd H10 D (.list (ws.map fun q => Rf q.1)) = H11 at *
     clear L7 hD
     -- word
     refine EX.setN hm <| EV.callF G (by rfl) (by rfl) (hA.le (by decide : 8 ≤ 11)) <| EVs.cons <| EV.name (hm.get (by rfl)) <| EVs.cons <| EV.name (hm.get (by rfl)) <| EVs.cons <| EV.name (hm.get (by rfl)) <| EVs.cons <| EV.name (hm.get (by rfl)) <| EVs.nil <|
       (readw_ok G L8.st (w := w) (L8.mem zwb (L8.at 15 rfl)) (L8.atl 15 rfl) (L8.at 14 rfl) (L8.atl 14 rfl) zhs (by (exact om394 gl e2)) (by (exact om395 hn2 (by assumption) hvl gl e2)) hw (by (exact om396 hkk hk0 hn2 (by assumption) hvl gl u2 e2))).mono fun r H12 q9 m10 hm => ?_
     obtain ⟨wA, uD, k3, bv3, e, s3, g0, gn, gD, gl2, gsp⟩ := q9
     subst e
     have u3 := s3.up; have l3 := s3.le
     have zwb3 := ZWB.mono _ _ _ _ l3 s3.old zwb
     have zhs3 := ZNB.mono _ _ _ _ l3 s3.old zhs
     have zd : ZWord ws w hs uD k3 bv3 := ⟨zwb3, zhs3, by (exact om397 hkk hk0 hw l2 gl2 u3 l3), gsp.congr fun p r _ => by
       congr 1; funext t; rw [s3.old _ _ (zhs.getD (by (exact om398 hkk hk0 l2)) _), s3.old _ _ (zwb.lt (by (exact om398 hkk hk0 l2)) _ _)]⟩
     have L9 := ((L8.nets2 s3 g0 gn gD).add ZWord.mono zd).sub (F' := F2 x ni t1 d1 t2 d2 iA pA vA qA mA vec part marks aR aW aM uR uW uM ++ [(valA, .list (vals.map I))] ++ [(hA', .list (hs.map I))] ++ [(D, .list (ws.map fun q => Rf q.1))] ++ [(wA, .list (uD.map I))] ++ wsF ws) fun p hp => by
       rcases List.mem_append.mp hp with q | q
       · rcases List.mem_append.mp q with q | q
         · exact List.mem_append_left _ (List.mem_append_left _ q)
         · exact List.mem_append_right _ q
       · exact List.mem_append_left _ (List.mem_append_right _ q)
     obtain ⟨⟨⟨⟨⟨⟨⟨⟨⟨zin, zv⟩, zp⟩, zm⟩, ze⟩, _⟩, _⟩, _⟩, _⟩, _⟩ := L9.z
     clear L8 s3 g0 gn gD gsp zd
     -- held
     refine EX.setN hm <| EV.callF G (by rfl) (by rfl) (hA.le (by decide : 9 ≤ 11)) <| EVs.cons <| EV.name (hm.get (by rfl)) <| EVs.cons <| EV.name (hm.get (by rfl)) <| EVs.cons <| EV.name (hm.get (by rfl)) <| EVs.cons <| EV.name (hm.get (by rfl)) <| EVs.cons <| EV.name (hm.get (by rfl)) <| EVs.nil <|
       ((writew_ok G L9.st (w := w) (L9.mem zwb3 (L9.at 15 rfl)) (L9.atl 15 rfl) (L9.at 14 rfl) (L9.atl 14 rfl) zhs3 (L9.at 8 rfl) (L9.atl 8 rfl) zp M.hpart (ze en (List.mem_singleton.mpr rfl)) (by (exact om394 gl e2)) (by (exact om395 hn2 (by assumption) hvl gl e2)) hw (by (exact om399 hkk hk0 hw hn2 (by assumption) hvl gl u2 e2 gl2 u3 l3))).le (by decide)).mono fun r H13 q9 m11 hm => ?_
     obtain ⟨hE, ws', k4, bv4, e, s4, g0, gn, gM, gl3, sem⟩ := q9
     subst e
     have u4 := s4.up; have l4 := s4.le
     have e5 := (ze en (List.mem_singleton.mpr rfl)).2
     have zd : ZHeld ws ws' w hs part en k4 bv4 := ⟨ZWB.mono _ _ _ _ l4 s4.old zwb3, fun q hq => ⟨(gM.2 q hq).2.2.1, (gM.2 q hq).2.2.2⟩, ZNB.mono _ _ _ _ l4 s4.old zhs3, ZNB.mono _ _ _ _ l4 s4.old zp, by (exact om379 u4 l4 e5), by (exact om400 hkk hk0 hw l2 gl2 u3 l3 u4 l4), fun t p r ht hp => by
       rw [sem t p r ht hp, s4.old _ _ (zhs3.getD (by (exact om401 hkk hk0 l2 l3)) _), s4.old _ _ e5, s4.old _ _ (zp.getD (by (exact om401 hkk hk0 l2 l3)) _), s4.old _ _ (zwb3.lt (by (exact om401 hkk hk0 l2 l3)) _ _)]⟩
     have L10 := L9.step s4
     obtain ⟨⟨⟨⟨⟨⟨⟨⟨⟨zin, zv⟩, zp⟩, zm⟩, ze⟩, zR⟩, zW⟩, zM⟩, zH⟩, zD⟩ := L10.z
     refine EX.nil ⟨rfl, ⟨x, ni, k4, bv4, t1, d1, t2, d2, iA, vA, qA, mA, aR, aW, aM, valA, hA', D, wA, hE, sg, step, base, w, vec, part, marks, en, uR, uW, uM, vals, hs, uD, ws, ws'⟩,
       ⟨M.hni, M.hk0, M.hst, M.hbs, M.hw, M.hvec, M.hpart, M.hmarks, ze en (List.mem_singleton.mpr rfl), N.hR, N.hW, N.hM, by dsimp only; (exact om402 hkk hk0 hw hn2 (by assumption) hvl gl u2 e2 gl2 u3 l3 gl3 u4 l4), by dsimp only; (exact om403 hn2 (by assumption) hvl gl e2 gl3), hvn, hvb, by dsimp only; omega, gl2, by dsimp only; omega, by dsimp only; (exact om404 gl e2 gl3), zin, zv, zp, zm, zR, zW, zM, zH, zD, zd⟩,
       ⟨L10.at 5 rfl, L10.at 7 rfl, L10.at 8 rfl, L10.at 9 rfl, L10.at 10 rfl, L10.at 11 rfl, L10.at 12 rfl, L10.at 13 rfl, L10.at 14 rfl, L10.at 15 rfl, fun q hq => (L10.fr (q.1, .list (q.2.map I)) (List.mem_append_right _ (List.mem_map.mpr ⟨q, hq, rfl⟩))).1, L10.at 16 rfl, gM.1, fun q hq => (gM.2 q hq).1⟩,
       ⟨L10.st, L10.at 0 rfl, L10.at 1 rfl, L10.at 2 rfl, L10.at 3 rfl, L10.at 4 rfl⟩, ?_⟩
     exact ⟨hm.get (by rfl), hm.get (by rfl), hm.get (by rfl), hm.get (by rfl), hm.get (by rfl), hm.get (by rfl), hm.get (by rfl), hm.get (by rfl), hm.get (by rfl), hm.get (by rfl), hm.get (by rfl), hm.get (by rfl), hm.get (by rfl), hm.get (by rfl), hm.get (by rfl), hm.get (by rfl), hm.get (by rfl), hm.get (by rfl), trivial⟩
   obtain ⟨d, hF, fh, hI, hm⟩ := hMid4
   have hkk := hF.hkk
   have hni := hF.hni
   refine EX.cons <| EX.setT <| EV.callF G (by rfl) (by rfl) (hA.le (by decide : 3 ≤ 11)) <| EVs.cons <| EV.name (hm.get (by rfl)) <| EVs.nil <|
     (words_ok G hI.st (xs := [(d.t1, S "i", d.d1, (rngI 2 d.ni).map I), (d.t2, S "d", d.d2, (rngI (2 + d.ni) 3).map I)]) (nk := d.ni + 3) (by (exact om405 hkk)) (by (exact om406 hni)) (by rw [hF.hk0]; push_cast; (exact om407)) hF.zin.2 hI.hli (fun q hq => by
       simp only [List.mem_cons, List.mem_nil_iff, or_false] at hq
       rcases hq with rfl | rfl
       · exact ⟨hI.ht1, hI.hd1⟩
       · exact ⟨hI.ht2, hI.hd2⟩) (by
       show ((rngI 2 d.ni).map I ++ ((rngI (2 + d.ni) 3).map I ++ [])) = _
       rcases hF.hni with e | e <;> rw [e] <;> rfl)).mono fun r H5 q9 => ?_
   obtain ⟨t, Dw, kvs, e, ht, hD, W, ext⟩ := q9
   refine AS.tup hA.1 ⟨t, _, e, ht, rfl, ASL.cons <| AS.name <| ASL.cons <| AS.name <| ASL.nil ?_⟩
   have hm := (hm.push (x := "words") (v := Rf Dw)).push (x := "rows") (v := IN (2 ^ (d.ni + 3)))
   have fh := fh.ext ext
   have hR : 2 ^ (d.ni + 3) ≤ 60 := by rcases hni with e | e <;> rw [e] <;> decide
   generalize 2 ^ (d.ni + 3) = R at *
   have b00 := hI.st.b0
   clear ext ht hI e
   refine EX.cons <| EX.forR G (by rfl) hA.1 <| EV.name (hm.get (by rfl)) ⟨R, fun _ H' m' => FinH d H' ∧ H' Dw = some (.idict kvs) ∧ Has m' (("rows", IN R) :: ("words", Rf Dw) :: namesD d), rfl, by (exact om408 hR), ⟨fh, hD, hm⟩, fun row H6 m6 hrow q9 => ?_, fun H6 m6 _ => EX.cons <| EX.ret <| EV.bool rfl⟩
   obtain ⟨fh, hd6, hm⟩ := q9
   clear hD
   have h0 := b00 row
   have hu : A.units + 64 < cLine := by have := hA.2.2; have e : cLine = 9900 := rfl; (exact om409 this e)
   have hm := hm.push (x := "row") (v := IN row)
   generalize mset m6 "row" (IN row) = m7 at *
   have hins : ∀ a ∈ d.ins, 0 ≤ a ∧ a < d.k := hF.zin.ins
   have lins : d.ins.length = d.ni := rngI_len
   have hvb := val_b d hF row
   refine EX.setN hm <| EV.callF G (by rfl) (by rfl) (hA.le (by decide : 1 ≤ 11)) <| EVs.cons <| EV.name (hm.get (by rfl)) <| EVs.cons <| EV.name (hm.get (by rfl)) <| EVs.cons <| EV.name (hm.get (by rfl)) <| EVs.nil <|
     (number_ok G hd6 W fh.hI hins (by (exact om410 hni lins)) hrow hR).mono fun r H7 q9 m8 hm => ?_
   obtain ⟨⟨D, o, hD, e⟩, e2⟩ := q9
   subst e2
   have x7 : Ext H6 H7 := by rw [e]; exact Ext.new hD o
   have fh := fh.ext x7
   have hd7 := x7 _ _ hd6
   clear e hD o D
   refine EX.cons <| EX.mono (Q := fun f H' m' => f = .next ∧ H' = H7 ∧ Has m' (("value", I (d.val row)) :: ("row", IN row) :: ("rows", IN R) :: ("words", Rf Dw) :: namesD d)) ?_ ?_
   · have hlb : (d.ins.map (d.bv · row)).length = d.ni := by rw [List.length_map]; exact lins
     have e1 : ((d.ni : Int) - 1).toNat = d.ni - 1 := by (exact om411 lins hlb)
     refine EX.ite <| IT.and <| IT.val <| EV.name (hm.get (by rfl)) ⟨d.sg, rfl, ite_intro (fun e => IT.and <| IT.cmp <| EV.name (hm.get (by rfl)) <| EV.bin <| EV.int <| EV.bin <| EV.len G (by rfl) <| EV.name (hm.get (by rfl)) ⟨d.iA, _, rfl, fh.hI, by rw [List.length_map]; (exact om412 hni lins hlb), EV.int ⟨_, BO.sub, _, BO.pow (by rw [List.length_map]; (exact om413 hni lins hlb)) (by rw [List.length_map]; (exact om414 hni lins hlb)) (by decide), _, CO.ge,
       ite_intro (fun e2 => IT.and_nil <| if_tt ?_) (fun e2 => if_ff <| EX.nil ⟨rfl, rfl, ?_⟩)⟩⟩) (fun e => if_ff <| EX.nil ⟨rfl, rfl, ?_⟩)⟩
     · refine EX.cons <| EX.augsub (hm.get (by rfl)) <| EV.bin <| EV.int <| EV.len G (by rfl) <| EV.name (hm.get (by rfl)) ⟨d.iA, _, rfl, fh.hI, by rw [List.length_map]; (exact om412 hni lins hlb), _, BO.pow (by rw [List.length_map]; (exact om415 lins hlb)) (by rw [List.length_map]; (exact om416 hni lins hlb)) (by decide), _, rfl, EX.nil ⟨rfl, rfl, ?_⟩⟩
       rw [List.length_map, lins] at e2 ⊢
       have e2 := of_decide_eq_true e2
       rw [e1] at e2
       have ev : d.val row = (idx (d.ins.map (d.bv · row)) : Int) - 2 ^ d.ni := by
         unfold Dat.val iv
         rw [hlb, e, decide_eq_true e2]; rfl
       rw [ev]
       exact ⟨mset_self .., hm.2.set⟩
     · rw [List.length_map, lins] at e2
       have e2 := of_decide_eq_false e2
       rw [e1] at e2
       have ev : d.val row = (idx (d.ins.map (d.bv · row)) : Int) := by
         unfold Dat.val iv
         rw [hlb, decide_eq_false e2, Bool.and_false]; rfl
       rw [ev]; exact hm
     · have ev : d.val row = (idx (d.ins.map (d.bv · row)) : Int) := by
         unfold Dat.val iv
         rw [e]; rfl
       rw [ev]; exact hm
   rintro f H7' m9 ⟨rfl, e7, hm⟩
   have e7 := e7.symm; subst e7
   refine EX.setN hm <| EV.bin <| EV.bin <| EV.name (hm.get (by rfl)) <| EV.name (hm.get (by rfl)) ⟨_, BO.sub, EV.name (hm.get (by rfl)) ⟨_, BO.mul (by have := hF.hbs; omega), fun m10 hm => ?_⟩⟩
   have hm : Has m10 (("low", I (d.low row)) :: ("value", I (d.val row)) :: ("row", IN row) :: ("rows", IN R) :: ("words", Rf Dw) :: namesD d) := hm
   obtain ⟨n, hv, hlt, hb⟩ := W d.en hF.hen.1 hF.hen.2
   refine EX.setN hm <| EV.bin <| EV.bin <| EV.itemD <| EV.name (hm.get (by rfl)) <| EV.name (hm.get (by rfl)) ⟨Dw, kvs, d.en, _, rfl, rfl, hd7, hv, EV.bin <| EV.int <| EV.name (hm.get (by rfl)) ⟨_, BO.pow (by (exact om114)) (by (exact om417 hR hrow)) (by decide), _, BO.floordiv pow_ne (natAbs_pow (by (exact om418 hR hrow))), EV.int ⟨_, BO.mod (by decide), fun m11 hm => ?_⟩⟩⟩
   rw [bitw, hb row hrow] at hm
   clear hv hlt hb
   -- bits, given
   have hw11 : m11 "words" = some (Rf Dw) := hm.get (by rfl)
   have hr11 : m11 "row" = some (IN row) := hm.get (by rfl)
   refine EX.setN hm <| EV.bitsC hA.1 hw11 hr11 W hrow hR <| EV.name (hm.get (by rfl)) ⟨d.vA, d.vec, rfl, fh.hV, by have := hF.hvec; (exact om419 this), hd7, hF.zv, fun Db hDb m12 hm => ?_⟩
   have hb0 := x7.none hDb
   have x8 := x7.trans (Ext.new hDb (.list ((bz d.bv row d.vec).map I)))
   have hB : upd H7 Db (.list ((bz d.bv row d.vec).map I)) Db = some (.list ((bz d.bv row d.vec).map I)) := upd_self ..
   have fh := fh.ext (Ext.new hDb (.list ((bz d.bv row d.vec).map I)))
   have hd8 := Ext.new hDb (.list ((bz d.bv row d.vec).map I)) _ _ hd7
   generalize upd H7 Db (.list ((bz d.bv row d.vec).map I)) = H8 at *
   clear hd7 x7 hDb
   have hw12 : m12 "words" = some (Rf Dw) := hm.get (by rfl)
   have hr12 : m12 "row" = some (IN row) := hm.get (by rfl)
   refine EX.setbitsC hm hA.1 hw12 hr12 W hrow hR <| EV.name (hm.get (by rfl)) ⟨d.qA, d.part, rfl, fh.hP, by have := hF.hpart; have := hF.hw; (exact om420 (by assumption) this), hd8, hF.zp, fun Dg hDg m13 hm => ?_⟩
   have hg0 := x8.none hDg
   have x9 := x8.trans (Ext.new hDg (.list ((bz d.bv row d.part).map I)))
   have hGi : upd H8 Dg (.list ((bz d.bv row d.part).map I)) Dg = some (.list ((bz d.bv row d.part).map I)) := upd_self ..
   have fh := fh.ext (Ext.new hDg (.list ((bz d.bv row d.part).map I)))
   have hd9 := Ext.new hDg (.list ((bz d.bv row d.part).map I)) _ _ hd8
   have hB := Ext.new hDg (.list ((bz d.bv row d.part).map I)) _ _ hB
   generalize upd H8 Dg (.list ((bz d.bv row d.part).map I)) = H9 at *
   clear hd8 x8 hDg
   -- the picked bits
   have hw13 : m13 "words" = some (Rf Dw) := hm.get (by rfl)
   have hr13 : m13 "row" = some (IN row) := hm.get (by rfl)
   have hlo13 : m13 "low" = some (I (d.low row)) := hm.get (by rfl)
   have hbi13 : m13 "bits" = some (Rf Db) := hm.get (by rfl)
   have lB : (bz d.bv row d.vec).length = d.vec.length := bz_len
   have hvl := hF.hvec
   have hwl := hF.hw
   refine EX.cons <| EX.mono (Q := fun f H' m' => f = .next ∧ Ext H9 H' ∧ m' = m13) ?_ ?_
   · refine EX.ite <| IT.cmp <| EV.bitsC hA.1 hw13 hr13 W hrow hR <| EV.name (hm.get (by rfl)) ⟨d.aR, d.uR, rfl, fh.hR, by have := hF.hR; (exact om421 hwl this), hd9, hF.zR.2.2.2.nb, fun D1 hD1 => ?_⟩
     have x10 := Ext.new hD1 (.list ((bz d.bv row d.uR).map I))
     have h1 : upd H9 D1 (.list ((bz d.bv row d.uR).map I)) D1 = some (.list ((bz d.bv row d.uR).map I)) := upd_self ..
     have hB := x10 _ _ hB
     generalize upd H9 D1 (.list ((bz d.bv row d.uR).map I)) = H10 at *
     refine EV.compR G (by rfl) hA.1 <| EV.name (hm.get (by rfl)) ⟨d.w, fun i ys H' => H' = H10 ∧ ys = ((List.range i).map fun p : Nat => if 0 ≤ d.low row + p ∧ d.low row + p < d.vec.length then (bz d.bv row d.vec).getD (d.low row + p).toNat 0 else 0).map I, rfl, by (exact om422 hwl), fun i ys H' ⟨_, e⟩ => by rw [e]; simp, ⟨rfl, rfl⟩, fun C cl i ys H11 hi q9 => ?_, fun ys H11 D2 q9 hD2 => ?_⟩
     obtain ⟨e1, e2⟩ := q9
     rotate_left 1
     obtain ⟨e1, e2⟩ := q9
     rotate_right 1
     · have e1 := e1.symm; subst e1
       have fin : ∀ v, v = (if 0 ≤ d.low row + i ∧ d.low row + i < d.vec.length then (bz d.bv row d.vec).getD (d.low row + i).toNat 0 else 0) → H10 = H10 ∧ ys ++ [I v] = ((List.range (i + 1)).map fun p : Nat => if 0 ≤ d.low row + p ∧ d.low row + p < d.vec.length then (bz d.bv row d.vec).getD (d.low row + p).toNat 0 else 0).map I := fun v hv => ⟨rfl, by rw [e2, List.range_succ, hv]; simp⟩
       refine EV.ifexp <| IT.chain <| EV.int <| EV.bin <| EV.name hlo13 <| EV.name (by rfl) ⟨_, BO.add, _, CO.le, fun e => if_ff <| EV.int <| fin _ ?_, fun e => EV.len G (by rfl) <| EV.name hbi13 ⟨Db, _, rfl, hB, by rw [List.length_map]; (exact om423 lB hvl), _, CO.lt, ite_intro (fun e3 => EV.item <| EV.name hbi13 <| EV.bin <| EV.name hlo13 <| EV.name (by rfl) ⟨_, BO.add, ?_⟩) (fun e3 => EV.int <| fin _ ?_)⟩⟩
       · rw [if_neg]; intro q; exact of_decide_eq_false e q.1
       · have e := of_decide_eq_true e
         have e3 := of_decide_eq_true e3
         rw [List.length_map, lB] at e3
         obtain ⟨a, ha1, ha2, _, hga⟩ := atI (ns := bz d.bv row d.vec) (i := (d.low row + i).toNat) (by (exact om424 lB e e3))
         rw [show (((d.low row + i).toNat : Nat) : Int) = d.low row + i by (exact om182 e)] at ha2
         exact ⟨Db, _, _, _, rfl, rfl, hB, e, by (exact om425 hvl e3), ha2, fin _ (by rw [if_pos ⟨e, e3⟩, hga])⟩
       · have e3 := of_decide_eq_false e3
         rw [List.length_map, lB] at e3
         rw [if_neg]; intro q; exact e3 q.2
     · have e1 := e1.symm; subst e1
       have x11 := Ext.new hD2 (.list ys)
       have h2 : upd H10 D2 (.list ys) D2 = some (.list (((List.range d.w).map fun p : Nat => if 0 ≤ d.low row + p ∧ d.low row + p < d.vec.length then (bz d.bv row d.vec).getD (d.low row + p).toNat 0 else 0).map I)) := by rw [e2]; exact upd_self ..
       refine ⟨_, CO.neL hu (x11 _ _ h1) h2, ?_⟩
       rw [decide_eq_true (plainR hF h0)]
       exact if_ff (EX.nil ⟨rfl, x10.trans x11, rfl⟩)
   rintro f H10 m13' ⟨rfl, x10, e⟩
   subst e
   have fh := fh.ext x10
   have hd10 := x10 _ _ hd9
   have hB := x10 _ _ hB
   have hGi := x10 _ _ hGi
   have x10 := x9.trans x10
   clear hd9 x9
   -- due, flags
   refine EX.setN hm <| EV.listOf G (by rfl) <| EV.name (hm.get (by rfl)) ⟨Db, _, rfl, hB, by rw [List.length_map]; (exact om426 lB hvl), fun Dd hDd m14 hm => ?_⟩
   have hd0 := x10.none hDd
   have nBd := ne_of hB hDd
   have nGd := ne_of hGi hDd
   have nWd := ne_of hd10 hDd
   have y1 := Ext.new hDd (.list ((bz d.bv row d.vec).map I))
   have hDu : upd H10 Dd (.list ((bz d.bv row d.vec).map I)) Dd = some (.list ((bz d.bv row d.vec).map I)) := upd_self ..
   have fh := fh.ext y1
   have hd11 := y1 _ _ hd10
   have hB := y1 _ _ hB
   have hGi := y1 _ _ hGi
   have x11 := x10.trans y1
   generalize upd H10 Dd (.list ((bz d.bv row d.vec).map I)) = H11 at *
   clear hd10 x10 y1 hDd
   have hw14 : m14 "words" = some (Rf Dw) := hm.get (by rfl)
   have hr14 : m14 "row" = some (IN row) := hm.get (by rfl)
   refine EX.setbitsC hm hA.1 hw14 hr14 W hrow hR <| EV.name (hm.get (by rfl)) ⟨d.mA, d.marks, rfl, fh.hM, by have := hF.hmarks; (exact om427 hvl this), hd11, hF.zm, fun Df hDf m15 hm => ?_⟩
   have hf0 := x11.none hDf
   have nBf := ne_of hB hDf
   have nGf := ne_of hGi hDf
   have nWf := ne_of hd11 hDf
   have ndf := ne_of hDu hDf
   have y1 := Ext.new hDf (.list ((bz d.bv row d.marks).map I))
   have hFl : upd H11 Df (.list ((bz d.bv row d.marks).map I)) Df = some (.list ((bz d.bv row d.marks).map I)) := upd_self ..
   have hd12 := y1 _ _ hd11
   have hB := y1 _ _ hB
   have hGi := y1 _ _ hGi
   have hDu := y1 _ _ hDu
   have x12 := x11.trans y1
   have fh6 : FinH d H6 := by assumption
   generalize upd H11 Df (.list ((bz d.bv row d.marks).map I)) = H12 at *
   clear hd11 x11 y1 hDf fh
   rw [← due_zero] at hDu
   rw [← flg_zero d hF] at hFl
   let N15 : List (Str × Value) := ("flags", Rf Df) :: ("due", Rf Dd) :: ("given", Rf Dg) :: ("bits", Rf Db) :: ("on", I (b2i (d.bv d.en row))) :: ("low", I (d.low row)) :: ("value", I (d.val row)) :: ("row", IN row) :: ("rows", IN R) :: ("words", Rf Dw) :: namesD d
   let INV : Nat → AH → Ms → Prop := fun i H' m' => Ext H6 H' ∧ H' Dw = some (.idict kvs) ∧ H' Db = some (.list ((bz d.bv row d.vec).map I)) ∧ H' Dg = some (.list ((bz d.bv row d.part).map I)) ∧ H' Dd = some (.list ((d.due row i).map I)) ∧ H' Df = some (.list ((d.flg row i).map I)) ∧ Has m' N15
   refine EX.cons <| EX.forR G (by rfl) hA.1 <| EV.name (hm.get (by rfl)) ⟨d.w, INV, rfl, by (exact om151 hwl), ⟨x12, hd12, hB, hGi, hDu, hFl, hm⟩, fun i H13 m16 hi q9 => ?_, fun H13 m16 q9 => ?_⟩
   obtain ⟨z1, z2, z3, z4, z5, z6, hm⟩ := q9
   rotate_left 1
   obtain ⟨z1, z2, z3, z4, z5, z6, hm⟩ := q9
   rotate_right 1
   · have hm : Has (mset m16 "turn" (IN i)) (("turn", IN i) :: N15) := hm.push
     generalize mset m16 "turn" (IN i) = m17 at *
     have skip : ¬ (d.bv d.en row = true ∧ 0 ≤ d.low row + i ∧ d.low row + i < d.vec.length) → INV (i + 1) H13 m17 := fun hn => ⟨z1, z2, z3, z4, by unfold Dat.due; rw [mix_skip hn]; exact z5, by unfold Dat.flg; rw [mix_skip hn]; exact z6, hm.2⟩
     refine EX.cons <| EX.ite <| IT.and <| IT.cmp <| EV.name (hm.get (by rfl)) <| EV.int ⟨_, CO.eq, ite_intro (fun e => IT.and <| IT.chain <| EV.int <| EV.bin <| EV.name (hm.get (by rfl)) <| EV.name (hm.get (by rfl)) ⟨_, BO.add, _, CO.le, (fun e2 => if_ff <| if_ff <| EX.nil <| EX.nil ⟨rfl, skip fun q => of_decide_eq_false e2 q.2.1⟩),
       fun e2 => EV.len G (by rfl) <| EV.name (hm.get (by rfl)) ⟨Db, _, rfl, z3, by rw [List.length_map]; (exact om423 lB hvl), _, CO.lt, ite_intro (fun e3 => IT.and_nil <| if_tt ?_) (fun e3 => if_ff <| EX.nil <| EX.nil ⟨rfl, skip fun q => ?_⟩)⟩⟩) (fun e => if_ff <| EX.nil <| EX.nil ⟨rfl, skip fun q => ?_⟩)⟩
     · have e : d.bv d.en row = true := by cases q : d.bv d.en row with
         | true => rfl
         | false => rw [q] at e; exact absurd e (by decide)
       have e2 := of_decide_eq_true e2
       have e3 := of_decide_eq_true e3
       rw [List.length_map, lB] at e3
       have lG : (bz d.bv row d.part).length = d.w := bz_len.trans hF.hpart
       obtain ⟨a, ha1, ha2, _, hga⟩ := atI (ns := bz d.bv row d.part) (i := i) (by (exact om428 hi lG))
       refine EX.cons <| EX.setitem <| EV.item <| EV.name (hm.get (by rfl)) <| EV.name (hm.get (by rfl)) ⟨Dg, _, _, _, rfl, rfl, z4, by (exact om114), by (exact om429 hwl hi lG), ha2, EV.name (hm.get (by rfl)) <| EV.bin <| EV.name (hm.get (by rfl)) <| EV.name (hm.get (by rfl)) ⟨_, BO.add, Dd, _, _, rfl, rfl, z5, e2, by (exact om425 hvl e3), by rw [List.length_map, due_len]; exact e3, ?_⟩⟩
       refine EX.cons <| EX.setitem <| EV.int <| EV.name (hm.get (by rfl)) <| EV.bin <| EV.name (hm.get (by rfl)) <| EV.name (hm.get (by rfl)) ⟨_, BO.add, Df, _, _, rfl, rfl, by rw [upd_ne _ _ (Ne.symm ndf)]; exact z6, e2, by (exact om425 hvl e3), by rw [List.length_map, flg_len]; exact e3, EX.nil <| EX.nil ⟨rfl, (z1.set hd0 _).set hf0 _, ?_, ?_, ?_, ?_, ?_, hm.2⟩⟩
       · rw [upd_ne _ _ nWf, upd_ne _ _ nWd]; exact z2
       · rw [upd_ne _ _ nBf, upd_ne _ _ nBd]; exact z3
       · rw [upd_ne _ _ nGf, upd_ne _ _ nGd]; exact z4
       · rw [upd_ne _ _ ndf, upd_self, ← List.map_set]
         unfold Dat.due
         rw [mix_set e e2 (by rw [show (((d.low row + i).toNat : Int) - d.low row).toNat = i by (exact om430 hwl hi e2 lG)]; exact hga.symm)]
       · rw [upd_self, ← List.map_set]
         unfold Dat.flg
         rw [mix_set e e2 rfl]
     · have e3 := of_decide_eq_false e3
       rw [List.length_map, lB] at e3
       exact e3 q.2.2
     · rw [q.1] at e; exact absurd e (by decide)
   have fh := fh6.ext z1
   clear hB hGi hDu hFl x12 hd12
   -- the put and the marked bits
   have hw16 : m16 "words" = some (Rf Dw) := hm.get (by rfl)
   have hr16 : m16 "row" = some (IN row) := hm.get (by rfl)
   refine EX.cons <| EX.mono (Q := fun f H' m' => f = .next ∧ Ext H13 H' ∧ m' = m16) ?_ ?_
   · refine EX.ite <| IT.or <| IT.cmp <| EV.bitsC hA.1 hw16 hr16 W hrow hR <| EV.name (hm.get (by rfl)) ⟨d.aW, d.uW, rfl, fh.hW, by have := hF.hW; (exact om427 hvl this), z2, hF.zW.2.2.2.2.2.nb, fun D1 hD1 => ?_⟩
     have y1 := Ext.new hD1 (.list ((bz d.bv row d.uW).map I))
     have h1 : upd H13 D1 (.list ((bz d.bv row d.uW).map I)) D1 = some (.list ((bz d.bv row d.uW).map I)) := upd_self ..
     have z5 := y1 _ _ z5
     have z6 := y1 _ _ z6
     have z2 := y1 _ _ z2
     have fh := fh.ext y1
     generalize upd H13 D1 (.list ((bz d.bv row d.uW).map I)) = H14 at *
     refine EV.name (hm.get (by rfl)) ⟨_, CO.neL hu h1 z5, ?_⟩
     rw [decide_eq_true (due_end d hF row h0)]
     refine if_ff <| IT.or <| IT.cmp <| EV.bitsC hA.1 hw16 hr16 W hrow hR <| EV.name (hm.get (by rfl)) ⟨d.aM, d.uM, rfl, fh.hK, by have := hF.hM; (exact om427 hvl this), z2, hF.zM.2.2.2.2.nb, fun D2 hD2 => ?_⟩
     have y2 := Ext.new hD2 (.list ((bz d.bv row d.uM).map I))
     refine EV.name (hm.get (by rfl)) ⟨_, CO.neL hu (upd_self ..) (y2 _ _ z6), ?_⟩
     rw [decide_eq_true (flg_end d hF row h0)]
     exact if_ff <| IT.or_nil <| if_ff <| EX.nil ⟨rfl, y1.trans y2, rfl⟩
   rintro f H14 m16' ⟨rfl, y, e⟩
   subst e
   have fh := fh.ext y
   have hd14 := y _ _ z2
   have hGi := y _ _ z4
   have x14 := z1.trans y
   clear z1 z2 z3 z4 z5 z6 y
   -- the hits
   have hva16 : m16' "value" = some (I (d.val row)) := hm.get (by rfl)
   refine EX.cons <| EX.mono (Q := fun f H' m' => f = .next ∧ Ext H14 H' ∧ m' = m16') ?_ ?_
   · refine EX.ite <| IT.cmp <| EV.bitsC hA.1 hw16 hr16 W hrow hR <| EV.name (hm.get (by rfl)) ⟨d.hA, d.hs, rfl, fh.hH, by have := hF.hhs; have := hF.hvals; (exact om431 (by assumption) this), hd14, hF.zH.2.nb, fun D1 hD1 => ?_⟩
     have y1 := Ext.new hD1 (.list ((bz d.bv row d.hs).map I))
     have h1 : upd H14 D1 (.list ((bz d.bv row d.hs).map I)) D1 = some (.list ((bz d.bv row d.hs).map I)) := upd_self ..
     have fh := fh.ext y1
     generalize upd H14 D1 (.list ((bz d.bv row d.hs).map I)) = H15 at *
     refine EV.compL hA.1 <| EV.name (hm.get (by rfl)) ⟨d.valA, d.vals.map I, fun i ys H' => H' = H15 ∧ ys = ((d.vals.take i).map fun v => b2i (decide (d.val row = v))).map I ∧ i ≤ d.vals.length, rfl, by rw [List.length_map]; have := hF.hvals; (exact om432 this), fun i ys H' ⟨e1, e2, e3⟩ => ⟨by rw [e1]; exact fh.hVal, by rw [e2]; simp; (exact om324 (by assumption))⟩, ⟨rfl, rfl, Nat.zero_le _⟩,
       fun C cl i v ys H16 hv q9 => ?_, fun ys H16 D2 q9 hD2 => ?_⟩
     obtain ⟨e1, e2, e3⟩ := q9
     rotate_left 1
     obtain ⟨e1, e2, e3⟩ := q9
     rotate_right 1
     · obtain ⟨a, ha, rfl, hmem, hlt, _⟩ := getI hv
       refine EV.intOf G (by rfl) <| EV.cmp <| EV.name hva16 <| EV.name (by rfl) ⟨_, CO.eq, _, rfl, e1, ?_, hlt⟩
       rw [e2, List.take_add_one, ha]
       simp only [List.map_append]
       rfl
     · have e1 := e1.symm; subst e1
       rw [List.length_map, List.take_length] at e2
       have y2 := Ext.new hD2 (.list ys)
       have h2 : upd H15 D2 (.list ys) D2 = some (.list ((d.vals.map fun v => b2i (decide (d.val row = v))).map I)) := by rw [e2]; exact upd_self ..
       refine ⟨_, CO.neL hu (y2 _ _ h1) h2, ?_⟩
       rw [decide_eq_true (plainH hF)]
       exact if_ff (EX.nil ⟨rfl, y1.trans y2, rfl⟩)
   rintro f H15 m17 ⟨rfl, y, e⟩
   subst e
   have fh := fh.ext y
   have hd15 := y _ _ hd14
   have hGi := y _ _ hGi
   have x15 := x14.trans y
   clear hd14 x14 y
   -- the stored bits
   have lsb : (d.sb row).length = d.ws.length := by unfold Dat.sb; simp
   have lhb : (d.hb row).length = d.ws'.length := by unfold Dat.hb; simp
   have hnv := hF.hvals
   have hnw := hF.hws
   have hnw' := hF.hws'
   refine EX.cons <| EX.setcompL' hA.1 <| EV.name (hm.get (by rfl)) ⟨d.memA, _, fun i ys H' => Ext H15 H' ∧ LL H' ys ((d.sb row).take i) ∧ i ≤ d.ws.length, rfl, by rw [List.length_map]; (exact om387 hnv hnw), fun i ys H' ⟨e1, e2, e3⟩ => ⟨e1 _ _ fh.hMem, by rw [e2.len, List.length_take]; (exact om433 lsb hnw (by assumption))⟩, ⟨fun _ _ h => h, .nil, Nat.zero_le _⟩,
     fun C i v ys H16 hv q9 => ?_, fun ys H16 Ds q9 hDs => ?_⟩
   obtain ⟨e1, e2, e3⟩ := q9
   rotate_left 1
   obtain ⟨e1, e2, e3⟩ := q9
   rotate_right 1
   · rw [List.getElem?_map] at hv
     obtain ⟨q, hq, rfl⟩ := Option.map_eq_some_iff.mp hv
     have hmem := List.mem_of_getElem? hq
     have hlt := (List.getElem?_eq_some_iff.mp hq).1
     have zq := hF.zD.1 q hmem
     refine EV.bitsC hA.1 hw16 hr16 W hrow hR <| EV.name (by rfl) ⟨q.1, q.2, rfl, e1 _ _ (fh.hMemI q hmem), by have := zq.1; (exact om434 hwl zq), e1 _ _ hd15, zq.2, fun D hD => ⟨e1.trans (Ext.new hD _), ?_, hlt⟩⟩
     have e : (d.sb row)[i]? = some (bz d.bv row q.2) := by unfold Dat.sb; rw [List.getElem?_map, hq]; rfl
     rw [List.take_add_one, e]
     exact (e2.ext (Ext.new hD _)).snoc (upd_self ..)
   rw [List.length_map, ← lsb, List.take_length] at e2
   have x16 := x15.trans e1
   have s0 := x16.none hDs
   have fh := fh.ext e1
   have hd16 := e1 _ _ hd15
   have hGi := e1 _ _ hGi
   have nGs := ne_of hGi hDs
   have nWs := ne_of hd16 hDs
   have y1 := Ext.new hDs (.list ys)
   have fh := fh.ext y1
   have hd17 := y1 _ _ hd16
   have hGi := y1 _ _ hGi
   have hLL := e2.ext y1
   have hDS : upd H16 Ds (.list ys) Ds = some (.list ys) := upd_self ..
   have x17 := x16.trans y1
   refine EX.push hm fun m18 hm => ?_
   generalize upd H16 Ds (.list ys) = H17 at *
   clear hd15 x15 e1 e2 e3 x16 hd16 y1 hDs
   have hw18 : m18 "words" = some (Rf Dw) := hm.get (by rfl)
   have hr18 : m18 "row" = some (IN row) := hm.get (by rfl)
   have lay := lay_small (by (exact om419 hnv)) hF.hvb
   refine EX.cons <| EX.mono (Q := fun f H' m' => f = .next ∧ Ext H17 H' ∧ m' = m18) ?_ ?_
   · refine EX.ite <| IT.cmp <| EV.bitsC hA.1 hw18 hr18 W hrow hR <| EV.name (hm.get (by rfl)) ⟨d.wdA, d.uD, rfl, fh.hWd, by have := hF.hD; (exact om421 hwl this), hd17, hF.zD.2.2.2.nb, fun D1 hD1 => ?_⟩
     have y1 := Ext.new hD1 (.list ((bz d.bv row d.uD).map I))
     have h1 : upd H17 D1 (.list ((bz d.bv row d.uD).map I)) D1 = some (.list ((bz d.bv row d.uD).map I)) := upd_self ..
     have fh := fh.ext y1
     have hDS := y1 _ _ hDS
     have hLL := hLL.ext y1
     generalize upd H17 D1 (.list ((bz d.bv row d.uD).map I)) = H18 at *
     refine EV.ifexp <| IT.cmp <| EV.name (hm.get (by rfl)) <| EV.name (hm.get (by rfl)) ⟨_, CO.inL fh.hVal, ?_⟩
     rw [any_mem]
     refine ite_intro (fun e => ?_) (fun e => ?_)
     · have hmem := of_decide_eq_true e
       obtain ⟨l2, hl1, hl2⟩ := hLL.get (word_in d hF row hmem)
       have hix := List.idxOf_lt_length_of_mem hmem
       refine EV.item <| EV.name (hm.get (by rfl)) <| EV.index <| EV.name (hm.get (by rfl)) ⟨d.valA, d.vals, rfl, fh.hVal, EV.name (hm.get (by rfl)) ⟨_, rfl, fh.hVal, hmem, lay, Ds, ys, _, _, rfl, rfl, hDS, by (exact om114), by (exact om435 hnv hix), by rw [Int.toNat_natCast]; exact hl1, _, CO.neL hu h1 hl2, ?_⟩⟩
       rw [decide_eq_true rfl]
       exact if_ff (EX.nil ⟨rfl, y1, rfl⟩)
     · have hmem := of_decide_eq_false e
       refine EV.mulL <| EV.list (by simp) <| EVs.cons <| EV.int <| EVs.nil ⟨by simp, fun D2 hD2 => EV.name (hm.get (by rfl)) ⟨D2, I 0, (d.w : Int), rfl, rfl, by (exact om436 hwl), by (exact om437 hwl), upd_self .., fun D3 hD3 => ?_⟩⟩
       have y2 := Ext.new hD2 (.list [I 0])
       have y3 := Ext.new hD3 (.list (List.replicate ((d.w : Int)).toNat (I 0)))
       refine ⟨_, CO.neL hu (ms := List.replicate d.w 0) (y3 _ _ (y2 _ _ h1)) (by rw [upd_self, Int.toNat_natCast, List.map_replicate]), ?_⟩
       rw [decide_eq_true (plainD0 hF hmem)]
       exact if_ff (EX.nil ⟨rfl, (y1.trans y2).trans y3, rfl⟩)
   rintro f H18 m19 ⟨rfl, y, e⟩
   subst e
   have fh := fh.ext y
   have hd18 := y _ _ hd17
   have hGi := y _ _ hGi
   have hDS := y _ _ hDS
   have hLL := hLL.ext y
   have x18 := x17.trans y
   clear hd17 x17 y
   -- the write
   refine EX.cons <| EX.mono (Q := fun f H' m' => f = .next ∧ m' = m19 ∧ Ext H6 H' ∧ H' Dw = some (.idict kvs) ∧ ∃ ys', H' Ds = some (.list ys') ∧ LL H' ys' (d.hb row)) ?_ ?_
   · refine EX.ite <| IT.and <| IT.cmp <| EV.name (hm.get (by rfl)) <| EV.int ⟨_, CO.eq, ite_intro (fun e => IT.and <| IT.cmp <| EV.name (hm.get (by rfl)) <| EV.name (hm.get (by rfl)) ⟨_, CO.inL fh.hVal, ?_⟩) (fun e => if_ff <| EX.nil ⟨rfl, rfl, x18, hd18, ys, hDS, ?_⟩)⟩
     · have e : d.bv d.en row = true := by cases q : d.bv d.en row with
         | true => rfl
         | false => rw [q] at e; exact absurd e (by decide)
       rw [any_mem]
       refine ite_intro (fun e2 => IT.and_nil <| if_tt ?_) (fun e2 => if_ff <| EX.nil ⟨rfl, rfl, x18, hd18, ys, hDS, ?_⟩)
       · have hmem := of_decide_eq_true e2
         have hix := List.idxOf_lt_length_of_mem hmem
         refine EX.cons <| EX.setitem <| EV.name (hm.get (by rfl)) <| EV.name (hm.get (by rfl)) <| EV.index <| EV.name (hm.get (by rfl)) ⟨d.valA, d.vals, rfl, fh.hVal, EV.name (hm.get (by rfl)) ⟨_, rfl, fh.hVal, hmem, lay, Ds, ys, _, rfl, rfl, hDS, by (exact om114), by (exact om435 hnv hix), by rw [hLL.len]; (exact om438 lsb hnw hix),
           EX.nil ⟨rfl, rfl, x18.set s0 _, by rw [upd_ne _ _ nWs]; exact hd18, _, upd_self .., ?_⟩⟩⟩
         rw [Int.toNat_natCast, held_set d hF row e hmem]
         refine (hLL.set hGi _).upd fun l n hl => ?_
         rintro rfl
         obtain ⟨a, r, er⟩ := hLL.head (by (exact om439 lsb hnv hnw))
         rw [hl, er] at hDS
         cases n with
         | nil => cases hDS
         | cons z zs => cases hDS
       · rw [held_same d hF row fun q => of_decide_eq_false e2 q.2]; exact hLL
     · rw [held_same d hF row fun q => ?_]
       · exact hLL
       · rw [q.1] at e; exact absurd e (by decide)
   rintro f H19 m20 ⟨rfl, e, x19, hd19, ys', hDS, hLL⟩
   subst e
   have fh := fh6.ext x19
   clear hd18 x18 hGi
   -- what is held
   have hw20 : m20 "words" = some (Rf Dw) := hm.get (by rfl)
   have hr20 : m20 "row" = some (IN row) := hm.get (by rfl)
   refine EX.cons <| EX.ite <| IT.cmp <| EV.compL' hA.1 <| EV.name (hm.get (by rfl)) ⟨d.heA, _, fun i ys H' => Ext H19 H' ∧ LL H' ys ((d.hb row).take i) ∧ i ≤ d.ws'.length, rfl, by rw [List.length_map]; (exact om387 hnv hnw'), fun i ys H' ⟨e1, e2, e3⟩ => ⟨e1 _ _ fh.hHe, by rw [e2.len, List.length_take]; (exact om433 lhb hnw' (by assumption))⟩, ⟨fun _ _ h => h, .nil, Nat.zero_le _⟩,
     fun C i v ys H20 hv q9 => ?_, fun ys H20 D q9 hD => ?_⟩
   obtain ⟨e1, e2, e3⟩ := q9
   rotate_left 1
   obtain ⟨e1, e2, e3⟩ := q9
   rotate_right 1
   · rw [List.getElem?_map] at hv
     obtain ⟨q, hq, rfl⟩ := Option.map_eq_some_iff.mp hv
     have hmem := List.mem_of_getElem? hq
     have hlt := (List.getElem?_eq_some_iff.mp hq).1
     have zq := hF.zE.2.1 q hmem
     refine EV.bitsC hA.1 hw20 hr20 W hrow hR <| EV.name (by rfl) ⟨q.1, q.2, rfl, e1 _ _ (fh.hHeI q hmem), by have := zq.1; (exact om434 hwl zq), e1 _ _ hd19, zq.2, fun D hD => ⟨e1.trans (Ext.new hD _), ?_, hlt⟩⟩
     have e : (d.hb row)[i]? = some (bz d.bv row q.2) := by unfold Dat.hb; rw [List.getElem?_map, hq]; rfl
     rw [List.take_add_one, e]
     exact (e2.ext (Ext.new hD _)).snoc (upd_self ..)
   rw [List.length_map, ← lhb, List.take_length] at e2
   have y1 := e1.trans (Ext.new hD (.list ys))
   have y2 := Ext.new hD (.list ys)
   refine EV.name (hm.get (by rfl)) ⟨_, CO.neLL hA (upd_self ..) (y1 _ _ hDS) (e2.ext y2) (hLL.ext y1), ?_⟩
   rw [decide_eq_true rfl]
   exact if_ff <| EX.nil <| EX.nil ⟨rfl, fh.ext y1, y1 _ _ hd19, hm.2.2.2.2.2.2.2.2.2⟩

 clear clsN clsG new_net_ok drive_ok add_cell_raw opp_ok add_cell_ok pair_ok inv_ok both_ok either_ok differ_ok mux_ok fits_ok hits_ok place_ok read_ok write_ok mark_ok readw_ok writew_ok pick_ok some_ok table_ok word_ok number_ok words_ok netinit_ok gatesinit_ok new_nets_ok add_input_ok pick_ls some_ls
 k_fill
 intro w s₀ s₁ mg mb G Y fa o pm cd doc dV kV ho hd' hcd hD hmg hg args vals as hpre hlay hrd hwl hlo
 have KX := kIn_of Y
 refine Ground.open G ?_
 intro T B D TE TW
 wrow_args hpre hlay hrd hwl hlo
 rename_i ns1 h1 h2 h3 h4 h5 a4 a3 l vs1 a1 hL ra w1 r0 hI hr hc1 hc2
 have hx : mg (Str.ofString "law") = some (.ref fa) := hmg
 have hy := mg_of KX T.g (n := Str.ofString "law") (v := .ref 266) (by rfl)
 rw [hy] at hx
 cases hx
 clear hd' hcd hD hmg hy ho Y
 have hlen := hI.length
 let c : Mine.Cx := ⟨PySem.Challenge.rw_nn0311_01.row.prog, w, s₁.heap, s₁.os, ⟨266, _, by decide, KX _ _ (by rfl)⟩⟩
 have GG : Mine.Gl c (Mine.main.heap_1_39 c.w.params) := ⟨KX, ⟨mg, T.g⟩, ⟨mb, T.b, T.builtins⟩, T.nolimit⟩
 have law := law_ok GG (l := l) (vs := vs1.toArray) hL (ns0 := ns1) (Mine.ints_er hI) (by rw [List.size_toArray]; omega)
 refine Mine.wpAny_callRef ?_
 refine law callerA (fun a => s₁.heap.get? a) s₁ _ ⟨rfl, by decide, by decide⟩ ⟨fun _ _ h => h, fun _ _ h => h, (fun _ _ h => nomatch h), hg, rfl⟩ [.ref l] rfl fun u s' H' F' q => ?_
 have := Mine.er_bool q; subst this
 refine GoodW.toG ⟨.inl ⟨_, _, _, rfl, raisesW_false ?_, .bool true, ?_, unshared_nil⟩, F'.keep, F'.os, F'.gens⟩
 · wrow_none_raised
 · wrow_post
end Mine
theorem PySem.Challenge.cw_nn0311_01_holds : PySem.Challenge.rw_nn0311_01.Holds :=
  Mine.main
