import PyProof.Rows.All
import Wide.All
import OpenK.AllK
import Wide.FinOn
import Lean
import PySem.Challenge.RW_xw0236_01
set_option Elab.async false
set_option maxRecDepth 100000
set_option maxHeartbeats 4000000
set_option linter.all false
section
namespace Mine
theorem om0 {a : Int} (h0 : (0:Int) ≤ a) : (¬ (a < (0:Int))) := by lia
theorem om1 {a : Int} (h0 : a ≤ (1000000:Int)) : (¬ ((Int.toNat a) > 16777216)) := by lia
theorem om2 {a : Int} (h0 : a ≤ (1000000:Int)) : (Int.toNat a) ≤ 16777216 := by lia
theorem om3 {a b : Nat} (h0 : a ≤ b) : (¬ (a > b)) := by lia
theorem om4 {a : Int} (h0 : (0:Int) ≤ a) (h1 : a < (256:Int)) : (((¬ (a < (0:Int)))) ∧ ((¬ (a ≥ (256:Int))))) := by lia
theorem om5 {a : Int} {b : Nat} (h0 : (0:Int) ≤ a) (h1 : a < (b : Int)) : (((0:Int) ≤ a) ∧ (a < (b : Int))) := by lia
theorem om6 {a : Int} (h0 : (0:Int) ≤ a) (h1 : a ≤ (1000000:Int)) : (((-9223372036854775808:Int) ≤ a) ∧ (a < (9223372036854775808:Int))) := by lia
theorem om7 {a : Int} (h0 : a ≤ (1000000:Int)) : (¬ (a = (9223372036854775807:Int))) := by lia
theorem om8 {a : Int} (h0 : (0:Int) ≤ a) (h1 : (¬ (a > (0:Int)))) : a = (0:Int) := by lia
theorem om9 {a b c : Nat}  : ((a + b) + c) = (a + (b + c)) := by lia
theorem om10 {a b : Nat} (h0 : a < b) : (b - a) = ((b - (a + 1)) + 1) := by lia
theorem om11 {a b : Nat} (h0 : a ≤ b) (h1 : a ≥ b) : a = b := by lia
theorem om12 {a : Nat} (h0 : a ≤ 100000) : (¬ ((0 + a) > 16777216)) := by lia
theorem om13 {a : Nat} (h0 : a ≤ 100000) : a ≤ 16777216 := by lia
theorem om14 {a : Int} {b : Nat} (h0 : (a + (1:Int)) < (b : Int)) : a < (b : Int) := by lia
theorem om15 {a : Int} (h0 : (0:Int) ≤ a) : (0:Int) ≤ (a + (1:Int)) := by lia
theorem om16 {a : Int} {b : Nat} (h0 : (a + (3:Int)) < (b : Int)) : (a + (1:Int)) < (b : Int) := by lia
theorem om17 {a : Int} (h0 : (0:Int) ≤ a) : (0:Int) ≤ (a + (2:Int)) := by lia
theorem om18 {a : Int} {b : Nat} (h0 : (a + (3:Int)) < (b : Int)) : ((a + (2:Int)) + (1:Int)) < (b : Int) := by lia
theorem om19 {a : Int} (h0 : (((0:Int) ≤ a) ∧ (a < (65536:Int)))) : (((0:Int) ≤ (a / (256:Int))) ∧ ((a / (256:Int)) < (256:Int))) := by lia
theorem om20 {a : Int}  : (((0:Int) ≤ (a % (256:Int))) ∧ ((a % (256:Int)) < (256:Int))) := by lia
theorem om21 {a : Int} (h0 : (((0:Int) ≤ a) ∧ (a < (65536:Int)))) : (a / (65536:Int)) = (0:Int) := by lia
theorem om22 {a : Int} (h0 : (((0:Int) ≤ a) ∧ (a < (65536:Int)))) : (a % (65536:Int)) = a := by lia
theorem om23 {a b : Nat}  : ((a + 1) + b) = (a + (b + 1)) := by lia
theorem om24 {a b : Nat} (h0 : a < b) : (min a b) = a := by lia
theorem om25 {a b c : Nat} (h0 : a = (b + c)) : a ≤ (b + c) := by lia
theorem om26 {a : Nat}  : 0 ≤ a := by lia
theorem om27 {a b c : Nat} (h0 : a < (min b c)) : a < b := by lia
theorem om28 {a b c : Nat} (h0 : a < (min b c)) : a < c := by lia
theorem om29 {a b : Nat} (h0 : a ≤ 1000) (h1 : (b : Int) = (a : Int)) : b < 10000 := by lia
theorem om30 {a : Nat} (h0 : a ≤ 1000) : a < 100000 := by lia
theorem om31 {a b : Nat}  : ((((a + 1) + b) : Nat) : Int) = ((((a + b) : Nat) : Int) + (1:Int)) := by lia
theorem om32 {a b c : Nat} (h0 : a = b) : ((min c a) + (b - c)) = b := by omega
theorem om33 {a b : Nat} (h0 : a ≠ 0) : (a + b) ≠ 0 := by lia
theorem om34 {a b c d : Nat} (h0 : a < b) (h1 : c = (d + b)) : (d + a) < c := by lia
theorem om35 {a b c : Nat} (h0 : a ≤ 1000) (h1 : b < 5000) (h2 : c = (b + a)) : c < 10000 := by lia
theorem om36 {a : Nat} (h0 : a ≤ 1000) : a < 10000 := by lia
theorem om37 {a b c : Nat} (h0 : a < b) (h1 : c = b) : a < c := by lia
theorem om38 {a b : Nat} (h0 : a < 1000) (h1 : b = a) : b < 100000 := by lia
theorem om39 {a b c : Nat} (h0 : a ≤ b) (h1 : b = c) (h2 : c < a) : False := by lia
theorem om40 {a b : Nat} (h0 : a ≤ b) (h1 : b < 1000) : a < 100000 := by lia
theorem om41 {a : Nat} (h0 : a < 1000) : (((-100000:Int) < (a : Int)) ∧ ((a : Int) < (100000:Int))) := by lia
theorem om42 {a : Nat} (h0 : a < 1000) : a ≤ 1000 := by lia
theorem om43 {a b : Nat} (h0 : a ≤ b) (h1 : b < 1000) : (((0:Int) ≤ (a : Int)) ∧ ((a : Int) < (100000:Int))) := by lia
theorem om44 {a : Nat} (h0 : a < 1000) : a < 100000 := by lia
theorem om45 {a b c d : Nat} (h0 : a ≤ b) (h1 : b < 1000) (h2 : c < 5000) (h3 : d < a) : (((0:Int) ≤ ((((c + 1) + d) : Nat) : Int)) ∧ (((((c + 1) + d) : Nat) : Int) < (65536:Int))) := by lia
theorem om46 {a : Nat} (h0 : a < 1000) : (4 + a) < 100000 := by lia
theorem om47 {a : Nat} (h0 : a ≠ 0) : a = ((a - 1) + 1) := by lia
theorem om48 {a b : Nat} (h0 : a < 1000) (h1 : a = (b + 1)) : b < 99999 := by lia
theorem om49 {a b : Nat} (h0 : a < 1000) (h1 : b = a) : (b - 1) < 100000 := by omega
theorem om50 {a b : Nat} (h0 : (a + 1) ≤ b) : (¬ (b = a)) := by lia
theorem om51 {a b c : Nat} (h0 : a = (b + 1)) (h1 : a ≤ c) : (¬ (c = b)) := by lia
theorem om52 {a b c : Nat} (h0 : a < 1000) (h1 : (a - 1) = (b + c)) : b < 100000 := by omega
theorem om53 {a : Nat} (h0 : (a + (0 + 1)) < 1000) : a < 99999 := by lia
theorem om54 {a : Nat} (h0 : ((a + 1) + 1) < 1000) : a < 10000 := by lia
theorem om55 {a : Nat}  : (0:Int) ≤ (a : Int) := by lia
theorem om56 {a : Nat} (h0 : a < 128) : (a : Int) < (128:Int) := by lia
theorem om57 {a b : Nat} (h0 : a < b) : b ≠ a := by lia
theorem om58 {a b c : Nat} (h0 : a < b) (h1 : (b + 1) ≤ c) : c ≠ a := by lia
theorem om59 {a : Nat}  : (a - 1) ≤ a := by omega
theorem om60 {a : Nat}  : (min 1 a) < 1000 := by lia
theorem om61 {a b c d e : Nat} (h0 : ((a ≤ b) ∧ (((a ≤ c) ∧ (b ≠ c))))) (h1 : d < e) (h2 : a = (e + 1)) : b ≠ d := by lia
theorem om62 {a b c d e : Nat} (h0 : ((a ≤ b) ∧ (((a ≤ c) ∧ (b ≠ c))))) (h1 : d < e) (h2 : a = (e + 1)) : c ≠ d := by lia
theorem om63 {a b : Nat} (h0 : (a + 1) = b) (h1 : b < 1000) : a < 100000 := by lia
theorem om64 {a b c d : Nat} (h0 : ((a ≤ b) ∧ (((a ≤ c) ∧ (b ≠ c))))) (h1 : d < a) : (¬ (b = d)) := by lia
theorem om65 {a b c d : Nat} (h0 : ((a ≤ b) ∧ (((a ≤ c) ∧ (b ≠ c))))) (h1 : d < a) : (¬ (c = d)) := by lia
theorem om66 {a b c : Nat} (h0 : a < b) (h1 : b ≤ c) : (¬ (c = a)) := by lia
theorem om67 {a b : Nat} (h0 : (a : Int) < (b : Int)) : a < b := by lia
theorem om68 {a : Nat} (h0 : ((((a + 1) + 1) + 1) + 1) < 1000) : a < 10000 := by lia
theorem om69 {a b c : Nat} (h0 : (a + 1) = b) (h1 : c < b) (h2 : (¬ ((c : Int) < (a : Int)))) : c = a := by lia
theorem om70 {a b : Nat} (h0 : (a + 1) = b) (h1 : b < 1000) : (((0:Int) ≤ (a : Int)) ∧ ((a : Int) < (100000:Int))) := by lia
theorem om71 {a b c : Nat} (h0 : (a + 1) = b) (h1 : c < a) : c < b := by lia
theorem om72 {a b c d : Nat} (h0 : (a + 1) = b) (h1 : b < 1000) (h2 : c < 5000) (h3 : d < a) : (((0:Int) ≤ ((((c + 1) + d) : Nat) : Int)) ∧ (((((c + 1) + d) : Nat) : Int) < (65536:Int))) := by lia
theorem om73 {a b : Nat} (h0 : (a + 1) = b) : b = ((b - 1) + 1) := by lia
theorem om74 {a b c : Nat} (h0 : 0 < a) : ((b < (((c + a) - 1) - (a - 1))) ↔ (b < c)) := by lia
theorem om75 {a : Nat} (h0 : 0 < a) : (0:Int) < (a : Int) := by lia
theorem om76 {a : Nat} (h0 : 0 < a) : (((a : Int) - (0:Int)) - (1:Int)) = (((a - 1) : Nat) : Int) := by lia
theorem om77 {a b : Nat} (h0 : (((a : Int) - (0:Int)) - (1:Int)) = (((a - 1) : Nat) : Int)) : ((a + b) - 1) = ((a - 1) + b) := by lia
theorem om78 {a : Nat}  : (Int.toNat ((a : Int) + (1:Int))) = (a + 1) := by lia
theorem om79 {a b : Nat}  : (min a b) ≤ a := by lia
theorem om80 {a b c : Nat} (h0 : a = (b + 4)) (h1 : c ≤ b) : (((((c + (b - c)) + 1) + 1) + 1) + 1) = a := by lia
theorem om81 {a : Nat} (h0 : a < 5000) : a < 100000 := by lia
theorem om82 {a b : Nat} (h0 : a = (b + 4)) : ((a : Int) - (4:Int)) = (b : Int) := by lia
theorem om83 {a : Nat} (h0 : a < 5000) : a < 10000 := by lia
theorem om84 {a : Nat} (h0 : a < 5000) : (a : Int) < (100000:Int) := by lia
theorem om85 {a b : Nat} (h0 : a ≤ 1000) (h1 : a = (b + 4)) : (b : Int) < (100000:Int) := by lia
theorem om86 {a b : Nat} (h0 : a < b) (h1 : b ≤ a) : False := by lia
theorem om87 {a b : Nat} (h0 : a < 5000) (h1 : b ≤ a) : b < 5000 := by lia
theorem om88 {a b : Nat}  : ((a : Int) + (b : Int)) = (((a + b) : Nat) : Int) := by lia
theorem om89 {a b c : Nat} (h0 : a ≤ 1000) (h1 : a = (b + 4)) (h2 : c ≤ b) : c < 100000 := by lia
theorem om90 {a b c : Nat} (h0 : a ≤ 1000) (h1 : a = (b + 4)) (h2 : c ≤ b) : (4 + c) < 100000 := by lia
theorem om91 {a b c : Nat} (h0 : a ≤ 1000) (h1 : a = (b + 4)) (h2 : c ≤ b) : (((0:Int) ≤ ((b : Int) - (c : Int))) ∧ (((b : Int) - (c : Int)) < (100000:Int))) := by lia
theorem om92 {a b : Nat}  : (Int.toNat ((a : Int) - (b : Int))) = (a - b) := by lia
theorem om93 {a b c : Nat} (h0 : a ≤ 1000) (h1 : a = (b + 4)) (h2 : c ≤ b) : (((((c + 1) + 1) + 1) + 1) + (b - c)) < 100000 := by lia
theorem om94 {a b c d : Nat} (h0 : a < 5000) (h1 : b < c) (h2 : c < 5000) (h3 : d ≤ 1) : (a + (b + (d + 1))) < 100000 := by lia
theorem om95 {a b : Nat} (h0 : a = b) : (a : Int) = (b : Int) := by lia
theorem om96 {a b c : Nat} (h0 : a = (b + c)) : (((a + 2) : Nat) : Int) = ((((b + 1) + (c + 1)) : Nat) : Int) := by lia
theorem om97 {a b : Nat}  : ((a + b) - a) = b := by lia
theorem om98 {a b c : Nat} (h0 : a < 5000) (h1 : b < c) (h2 : c < 5000) : (a + (b + 1)) < 10000 := by lia
theorem om99 {a b : Nat}  : (a + (b + 1)) = ((a + b) + 1) := by lia
theorem om100 {a b : Nat} (h0 : (¬ ((a : Int) < (b : Int)))) : (¬ (a < b)) := by lia
theorem om101 {a b : Nat} (h0 : 0 < a) : (0 * b) < a := by lia
theorem om102 {a b c : Nat} (h0 : a ≤ b) : a ≤ ((b - c) + c) := by omega
theorem om103 {a : Nat}  : (3:Int) < (((((a : Int) + (1:Int)) + (1:Int)) + (1:Int)) + (1:Int)) := by lia
theorem om104 {a : Nat} (h0 : a < 10000) : ((((a + 1) + 1) + 1) + 1) < 100000 := by lia
theorem om105 {a : Int} (h0 : (((0:Int) ≤ a) ∧ (a < (65536:Int)))) : ((((max (a / (256:Int)) (0:Int)) % (256:Int)) * (256:Int)) + ((max (a % (256:Int)) (0:Int)) % (256:Int))) = a := by omega
theorem om106 {a : Nat} (h0 : a < 10000) : (4 + a) < 100000 := by lia
theorem om107 {a : Int} (h0 : a < (128:Int)) : (Int.toNat a) < 128 := by lia
theorem om108 {a : Int} (h0 : (0:Int) ≤ a) (h1 : a < (128:Int)) : (a % (18446744073709551616:Int)) = a := by lia
theorem om109 {a : Int} (h0 : a < (128:Int)) : a < (72057594037927936:Int) := by lia
theorem om110 {a : Int} (h0 : (0:Int) ≤ a) (h1 : a < (128:Int)) : (((0:Int) ≤ a) ∧ (a < (256:Int))) := by lia
theorem om111 {a b : Nat} (h0 : a < b) : (¬ ((a : Int) ≥ (b : Int))) := by lia
theorem om112 {a b : Nat} (h0 : a < b) : (a : Int) < (b : Int) := by lia
theorem om113 {a : Nat} (h0 : a < 10000) : ((a + 1) + 1) < 100000 := by lia
theorem om114 {a b : Nat} (h0 : a ≤ b) (h1 : b < a) : False := by lia
theorem om115 {a : Nat}  : (¬ (((a : Int) + (1:Int)) < (1:Int))) := by lia
theorem om116 {a b : Nat} (h0 : a < b) : (¬ (((a : Int) + (1:Int)) > (b : Int))) := by lia
theorem om117 {a : Nat}  : (((a : Int) + (1:Int)) - (1:Int)) = (a : Int) := by lia
theorem om118 {a : Nat} (h0 : a ≤ 1000) : (((0:Int) ≤ (a : Int)) ∧ ((a : Int) < (100000:Int))) := by lia
theorem om119 {a : Nat} (h0 : a < 10000) : a < 100000 := by lia
theorem om120 {a : Nat} (h0 : a < 10000) : (a + 1) < 100000 := by lia
theorem om121 {a : Nat}  : (a + (4 - a)) = (max 4 a) := by lia
theorem om122 {a b c : Nat}  : ((2 + a) + ((2 * b) + c)) = ((2 * (b + 1)) + (a + c)) := by lia
theorem om123 {a : Int} {b c : Nat}  : ((a - (b : Int)) - (c : Int)) = (a - (((b + c) : Nat) : Int)) := by lia
theorem om124 {a : Nat}  : (2 + (2 * a)) = (2 * (a + 1)) := by lia
theorem om125 {a b : Nat}  : (a + b) = (b + a) := by lia
theorem om126 {a : Nat} {b : Int} {c : Nat} (h0 : (a : Int) = b) : (((a + (2 * c)) : Nat) : Int) = (b + ((2:Int) * (c : Int))) := by lia
theorem om127 {a b : Nat} {c d : Int} {e : Nat} (h0 : ((((2 * a) + b) : Nat) : Int) ≤ (c - d)) (h1 : (e : Int) = (d + ((2:Int) * (a : Int)))) : ((((e + (Int.toNat ((c - (b : Int)) - (e : Int)))) + b) : Nat) : Int) = c := by lia
theorem om128 {a : Nat} (h0 : a ≠ 0) : ((a : Int) + (1:Int)) ≠ (1:Int) := by lia
theorem om129 {a b : Nat} {c : Int} {d e : Nat} (h0 : (a : Int) ≤ ((b : Int) - c)) (h1 : b ≤ 1000) (h2 : ((c = (8:Int)) ∨ (c = (12:Int)))) (h3 : a = ((2 * d) + e)) : e ≤ 1000 := by lia
theorem om130 {a : Nat}  : a ≠ (a + 1) := by lia
theorem om131 {a b c : Nat} (h0 : a ≤ b) (h1 : c < a) : (((¬ (c = b))) ∧ ((¬ (c = (b + 1))))) := by lia
theorem om132 {a : Nat} (h0 : a < 1000) : (max 4 a) < 100000 := by lia
theorem om133 {a b c : Nat}  : (a + (b + c)) = ((a + b) + c) := by lia
theorem om134 {a b c : Nat} (h0 : a < 1000) (h1 : a = (b + (c + 1))) : b < 100000 := by lia
theorem om135 {a b c : Nat}  : ((a : Int) - (((b + (c + 0)) : Nat) : Int)) = (((a : Int) - (b : Int)) - (c : Int)) := by lia
theorem om136 {a b : Nat} {c : Int} {d e f g h : Nat} (h0 : (a : Int) ≤ ((b : Int) - c)) (h1 : b ≤ 1000) (h2 : ((c = (8:Int)) ∨ (c = (12:Int)))) (h3 : a = ((2 * d) + e)) (h4 : e = ((f + g) + h)) : (((0:Int) ≤ (((b : Int) - (f : Int)) - (g : Int))) ∧ ((((b : Int) - (f : Int)) - (g : Int)) < (65536:Int))) := by lia
theorem om137 {a : Nat}  : (0:Int) ≤ (((4 - a) : Nat) : Int) := by lia
theorem om138 {a : Nat}  : (((4 - a) : Nat) : Int) < (100000:Int) := by omega
theorem om139 {a : Nat} (h0 : a < 1000) : (a + (Int.toNat (((4 - a) : Nat) : Int))) < 100000 := by omega
theorem om140 {a b : Nat} {c : Int} {d e : Nat} (h0 : (a : Int) ≤ ((b : Int) - c)) (h1 : b ≤ 1000) (h2 : ((c = (8:Int)) ∨ (c = (12:Int)))) (h3 : a = ((2 * d) + e)) : (((0:Int) ≤ ((b : Int) - (e : Int))) ∧ (((b : Int) - (e : Int)) < (65536:Int))) := by lia
theorem om141 {a b : Nat} {c : Int} {d e f : Nat} (h0 : (a : Int) ≤ ((b : Int) - c)) (h1 : b ≤ 1000) (h2 : (d : Int) = (c + ((2:Int) * (e : Int)))) (h3 : (f + (2 * e)) = d) : (0 + f) < 100000 := by lia
theorem om142 {a : Nat} (h0 : a < 1000) : (2 * a) < 100000 := by lia
theorem om143 {a b : Nat} {c : Int} {d e f g : Nat} (h0 : (a : Int) ≤ ((b : Int) - c)) (h1 : a = ((2 * d) + e)) (h2 : (((0:Int) ≤ ((b : Int) - (e : Int))) ∧ (((b : Int) - (e : Int)) < (65536:Int)))) (h3 : (f : Int) = (c + ((2:Int) * (d : Int)))) (h4 : (g + (2 * d)) = f) : (g + (2 * d)) < 100000 := by lia
theorem om144 {a b : Nat} {c : Int} {d e f : Nat} (h0 : (a : Int) ≤ ((b : Int) - c)) (h1 : a = ((2 * d) + e)) (h2 : (((0:Int) ≤ ((b : Int) - (e : Int))) ∧ (((b : Int) - (e : Int)) < (65536:Int)))) (h3 : (f : Int) = (c + ((2:Int) * (d : Int)))) : f < 100000 := by lia
theorem om145 {a b : Nat} {c : Int} {d e f : Nat} (h0 : (a : Int) ≤ ((b : Int) - c)) (h1 : a = ((2 * d) + e)) (h2 : (f : Int) = (c + ((2:Int) * (d : Int)))) : (0:Int) ≤ (((b : Int) - (e : Int)) - (f : Int)) := by lia
theorem om146 {a b c : Nat} (h0 : (((0:Int) ≤ ((a : Int) - (b : Int))) ∧ (((a : Int) - (b : Int)) < (65536:Int)))) : (((a : Int) - (b : Int)) - (c : Int)) < (100000:Int) := by lia
theorem om147 {a b : Nat} {c : Int} {d e f : Nat} (h0 : (a : Int) ≤ ((b : Int) - c)) (h1 : a = ((2 * d) + e)) (h2 : (((0:Int) ≤ ((b : Int) - (e : Int))) ∧ (((b : Int) - (e : Int)) < (65536:Int)))) (h3 : (f : Int) = (c + ((2:Int) * (d : Int)))) : (f + (Int.toNat (((b : Int) - (e : Int)) - (f : Int)))) < 100000 := by omega
theorem om148 {a b : Nat} {c : Int} {d e f : Nat} (h0 : (a : Int) ≤ ((b : Int) - c)) (h1 : b ≤ 1000) (h2 : a = ((2 * d) + e)) (h3 : (f : Int) = (c + ((2:Int) * (d : Int)))) : ((f + (Int.toNat (((b : Int) - (e : Int)) - (f : Int)))) + e) < 100000 := by lia
theorem om149 {a b : Nat} (h0 : a ≤ 1000) (h1 : (b : Int) = (a : Int)) : b < 100000 := by lia
theorem om150 {a b c d : Nat} (h0 : a ≤ b) (h1 : ((c = b) ∨ (((c = (b + 1)) ∨ (c = d))))) : ((c = d) ∨ (a ≤ c)) := by lia
theorem om151 {a : Int} (h0 : (((0:Int) ≤ a) ∧ (a < (256:Int)))) : (((0:Int) ≤ a) ∧ (a < (256:Int))) := by omega
theorem om152 {a : Nat} (h0 : a < 1000) : (a : Int) < (65536:Int) := by lia
theorem om153 {a b : Nat} (h0 : a ≤ b) (h1 : 0 = (b - a)) : a = b := by lia
theorem om154 {a : Nat} (h0 : a < 1000) : (((0:Int) ≤ (a : Int)) ∧ ((a : Int) < (100000:Int))) := by lia
theorem om155 {a b c : Nat} (h0 : a < 1000) (h1 : b < 5000) (h2 : c < a) : (b + c) < 10000 := by lia
theorem om156 {a : Nat} (h0 : a < 10000) : a < 99999 := by lia
theorem om157 {a b c d e : Nat} (h0 : a < 1000) (h1 : ((b + c) + (d + 1)) ≤ a) (h2 : e = b) : e < 10000 := by lia
theorem om158 {a b c d e : Nat} (h0 : a < 1000) (h1 : (((b + c) + 1) + d) ≤ a) (h2 : e = b) : e < 10000 := by lia
theorem om159 {a b c d : Nat} (h0 : a < 1000) (h1 : (((b + c) + 1) + d) ≤ a) : c < 100000 := by lia
theorem om160 {a b c d : Nat} (h0 : (((a + b) + 1) + c) ≤ d) : ((a + (b + 1)) + c) ≤ d := by omega
theorem om161 {a b : Nat} (h0 : a ≤ b) : a ≤ b := by omega
theorem om162 {a b : Nat} (h0 : a ≠ (b + 1)) : a ≠ (b + 1) := by omega
theorem om163 {a b c d : Nat} (h0 : ((a + b) + (c + 1)) ≤ d) : (((a + b) + 1) + c) ≤ d := by lia
theorem om164 {a b : Nat} (h0 : (a + 1) < b) : (a + 1) ≠ (b + 1) := by lia
theorem om165 {a b : Nat} (h0 : (a + 1) < b) : a ≤ (b + 1) := by lia
theorem om166 {a b : Nat} (h0 : (a + 1) < b) : (b + 1) ≠ (a + 1) := by lia
theorem om167 {a b : Nat} (h0 : a < b) : a ≠ (b + 1) := by lia
theorem om168 {a b : Nat} (h0 : a = (b + 1)) (h1 : a < b) : False := by lia
theorem om169 {a b c d : Nat} (h0 : ((a + b) + (c + 1)) ≤ d) (h1 : b ≠ 0) : ((((a + 1) + 0) + 1) + c) ≤ d := by lia
theorem om170 {a b c : Nat} (h0 : a = b) (h1 : c = a) (h2 : c < 10000) : b < 100000 := by lia
theorem om171 {a b c d : Nat} (h0 : a < 1000) (h1 : ((b + c) + (d + 1)) ≤ a) : c < 100000 := by lia
theorem om172 {a b c d : Nat} (h0 : ((a + b) + (c + 1)) ≤ d) : ((a + (b + 1)) + c) ≤ d := by lia
theorem om173 {a : Nat}  : (a + 2) ≠ (a + 1) := by lia
theorem om174 {a b c d : Nat} (h0 : ((a + b) + (c + 1)) ≤ d) : (((a + 1) + 0) + c) ≤ d := by lia
theorem om175 {a b : Nat} (h0 : (a + 2) < b) : (a + 1) ≠ (b + 1) := by lia
theorem om176 {a b : Nat} (h0 : (a + 2) < b) : a ≤ (b + 1) := by lia
theorem om177 {a b : Nat} (h0 : (a + 2) < b) : (b + 1) ≠ (a + 1) := by lia
theorem om178 {a b : Nat} (h0 : (a + 2) < b) : (b + 1) ≠ (a + 2) := by lia
theorem om179 {a b : Nat} (h0 : a ≠ (b + 1)) (h1 : a ≠ (b + 2)) : (((¬ (a = (b + 1)))) ∧ ((¬ (a = (b + 2))))) := by lia
theorem om180 {a b c : Nat} (h0 : ((a ≤ b) ∧ (((b ≠ (a + 1)) ∧ (((b ≠ (a + 2)) ∧ (b ≠ c))))))) : (((¬ (b = (a + 1)))) ∧ ((¬ (b = (a + 2))))) := by lia
theorem om181 {a b c d : Nat} (h0 : ((a + b) + (c + 1)) ≤ d) : b ≤ d := by lia
theorem om182 {a b c d : Nat} (h0 : a < 1000) (h1 : (b + c) ≤ a) (h2 : d = b) : d < 10000 := by lia
theorem om183 {a : Nat}  : ((a ≤ (a + 1)) ∧ (((a ≤ (a + 2)) ∧ ((a + 1) ≠ (a + 2))))) := by lia
theorem om184  (h0 : (((0 + 1) : Nat) : Int) > (1:Int)) : False := by lia
theorem om185 {a b c : Nat} (h0 : a < 1000) (h1 : ((b + (0 + 1)) + 0) ≤ a) (h2 : (b + (0 + 1)) = (c + (0 + 1))) : c < 100000 := by lia
theorem om186 {a b c : Nat} (h0 : a < 1000) (h1 : ((b + (0 + 1)) + 0) ≤ a) (h2 : (c + (0 + 1)) = (b + (0 + 1))) : c < 99998 := by lia
theorem om187 {a b : Nat} (h0 : a ≠ (b + 2)) : (¬ (a = (b + 2))) := by omega
theorem om188 {a b : Nat} (h0 : a < 1000) (h1 : (b + (0 + 1)) ≤ a) : b < 100000 := by lia
theorem om189 {a b : Nat} (h0 : a ≠ (b + 1)) : (¬ ((b + 1) = a)) := by lia
theorem om190 {a b c : Nat} (h0 : a < 1000) (h1 : ((b + (0 + 1)) + 0) ≤ a) (h2 : (c + (0 + 1)) = (b + (0 + 1))) : (c + 1) < 10000 := by lia
theorem om191 {a b c : Nat} (h0 : a ≠ (b + 2)) (h1 : c ≠ a) : (((¬ (a = (b + 2)))) ∧ ((¬ (a = c)))) := by lia
theorem om192 {a b c : Nat} (h0 : a ≤ b) (h1 : ((a ≤ c) ∧ (((c ≠ (a + 1)) ∧ (((c ≠ (a + 2)) ∧ (c ≠ b))))))) : ((a ≤ c) ∧ (a ≤ b)) := by lia
theorem om193 {a b c : Nat} (h0 : a ≠ (b + 1)) (h1 : c ≠ (b + 1)) : (((¬ ((b + 1) = c))) ∧ ((¬ ((b + 1) = a)))) := by lia
theorem om194 {a b c d : Nat} (h0 : a ≠ b) (h1 : ((c ≤ a) ∧ (((a ≠ (c + 1)) ∧ (((a ≠ (c + 2)) ∧ (a ≠ d))))))) : (((¬ (a = (c + 2)))) ∧ ((((¬ (a = b))) ∧ ((¬ (a = d)))))) := by lia
theorem om195 {a b : Nat} (h0 : a = (b + 1)) : (((a + 1) : Nat) : Int) > (1:Int) := by lia
theorem om196 {a : Nat}  : a ≠ (a + 2) := by lia
theorem om197 {a : Nat} (h0 : 0 < a) (h1 : a < 1000) : (((0:Int) < (a : Int)) ∧ ((a : Int) < (1073741824:Int))) := by lia
theorem om198 {a : Int} (h0 : (((0:Int) ≤ a) ∧ (a < (65536:Int)))) : (((((0:Int) ≤ (a / (256:Int))) ∧ ((a / (256:Int)) < (256:Int)))) ∧ ((((0:Int) ≤ (a % (256:Int))) ∧ ((a % (256:Int)) < (256:Int))))) := by omega
theorem om199 {a : Nat}  : (0:Int) ≤ (((7 + a) : Nat) : Int) := by lia
theorem om200 {a : Nat} (h0 : a < 3) : (((7 + a) : Nat) : Int) < (65536:Int) := by omega
theorem om201   : 0 ≤ 3 := by lia
theorem om202 {a : Nat} (h0 : a < 3) : (((0:Int) ≤ ((7:Int) + (a : Int))) ∧ (((7:Int) + (a : Int)) < (65536:Int))) := by lia
theorem om203 {a : Nat} (h0 : a < 3) : (((0:Int) ≤ ((1:Int) + (a : Int))) ∧ (((1:Int) + (a : Int)) < (256:Int))) := by lia
theorem om204 {a b c : Nat} (h0 : a = (b + 4)) (h1 : a ≤ c) : (¬ (c = (b + 2))) := by lia
theorem om205 {a : Nat} (h0 : (a : Int) ≤ ((24:Int) - (1:Int))) : a < 1000 := by omega
theorem om206 {a b c : Nat} (h0 : a ≤ b) (h1 : (c + 2) < a) : (¬ (b = (c + 2))) := by lia
theorem om207 {a : Nat} (h0 : a ≤ 63) : a < 100000 := by lia
theorem om208 {a : Nat} (h0 : 0 < a) : a ≠ 0 := by lia
theorem om209 {a : Int} (h0 : ((a = (13:Int)) ∨ (a = (10:Int)))) : ((a = (13:Int)) ∨ (((a = (10:Int)) ∨ (((a = (2:Int)) ∨ (a = (5:Int))))))) := by lia
theorem om210 {a : Int} (h0 : ((a = (2:Int)) ∨ (a = (5:Int)))) : ((a = (13:Int)) ∨ (((a = (10:Int)) ∨ (((a = (2:Int)) ∨ (a = (5:Int))))))) := by lia
theorem om211 {a : Nat} (h0 : a < 256) : a < 100000 := by lia
theorem om212 {a b c : Nat} (h0 : a < 256) (h1 : a = (b + (c + 1))) : b < 256 := by lia
theorem om213 {a b c d e : Nat} (h0 : a ≤ 1000) (h1 : b = c) (h2 : a = ((d + c) + e)) : b < 100000 := by lia
theorem om214 {a b c d e f : Nat} (h0 : a ≤ 1000) (h1 : b = c) (h2 : a = ((d + c) + e)) (h3 : f = d) : (b + f) < 100000 := by lia
theorem om215 {a b c : Nat} (h0 : (((0:Int) ≤ (((a : Int) - (b : Int)) - (c : Int))) ∧ ((((a : Int) - (b : Int)) - (c : Int)) < (65536:Int)))) : (((((0:Int) ≤ ((((a : Int) - (b : Int)) - (c : Int)) / (256:Int))) ∧ (((((a : Int) - (b : Int)) - (c : Int)) / (256:Int)) < (256:Int)))) ∧ ((((0:Int) ≤ ((((a : Int) - (b : Int)) - (c : Int)) % (256:Int))) ∧ (((((a : Int) - (b : Int)) - (c : Int)) % (256:Int)) < (256:Int))))) := by omega
theorem om216 {a : Nat} (h0 : a < 256) : ((2 * a) + 2) < 100000 := by lia
theorem om217 {a b c : Nat} {d e : Int} {f : Nat} (h0 : a < 256) (h1 : (b : Int) ≤ ((c : Int) - d)) (h2 : c ≤ 1000) (h3 : (((0:Int) ≤ e) ∧ (e < (256:Int)))) (h4 : ((d = (8:Int)) ∨ (d = (12:Int)))) (h5 : b = ((2 * a) + f)) : (((((0:Int) ≤ e) ∧ (e < (256:Int)))) ∧ ((((a : Int) < (256:Int)) ∧ ((((((0:Int) ≤ (((c : Int) - (f : Int)) / (256:Int))) ∧ ((((c : Int) - (f : Int)) / (256:Int)) < (256:Int)))) ∧ ((((0:Int) ≤ (((c : Int) - (f : Int)) % (256:Int))) ∧ ((((c : Int) - (f : Int)) % (256:Int)) < (256:Int))))))))) := by lia
theorem om218 {a b : Nat} {c : Int} {d e f : Nat} (h0 : (a : Int) ≤ ((b : Int) - c)) (h1 : b ≤ 1000) (h2 : a = ((2 * d) + e)) (h3 : (f : Int) = (c + ((2:Int) * (d : Int)))) : f < 100000 := by lia
theorem om219 {a b c : Nat} (h0 : a ≤ 1000) : (((a : Int) - (b : Int)) - (c : Int)) < (100000:Int) := by lia
theorem om220 {a b : Nat} {c : Int} {d e f : Nat} (h0 : (a : Int) ≤ ((b : Int) - c)) (h1 : b ≤ 1000) (h2 : a = ((2 * d) + e)) (h3 : (f : Int) = (c + ((2:Int) * (d : Int)))) : (f + (Int.toNat (((b : Int) - (e : Int)) - (f : Int)))) < 100000 := by lia
theorem om221 {a : Nat} (h0 : a < 256) : (a : Int) < (256:Int) := by lia
theorem om222 {a : Nat} (h0 : a < 256) : (12 + (2 * a)) < 100000 := by lia
theorem om223 {a : Nat} (h0 : a < 256) : (8 + (2 * a)) < 100000 := by lia
theorem om224 {a b : Nat} (h0 : a ≤ (b + 1)) : a ≤ (b + 2) := by lia
theorem om225 {a : Nat}  : (a + 2) ≤ (a + 2) := by lia
theorem om226 {a : Nat}  : 0 < (a + 2) := by lia
theorem om227 {a : Nat} {b : Int} (h0 : (¬ ((a : Int) > b))) : (a : Int) ≤ b := by lia
theorem om228 {a b : Nat} (h0 : a < (b + 2)) (h1 : a ≥ (b + 1)) : a = (b + 1) := by lia
theorem om229 {a : Nat} (h0 : (a + 2) < (a + 2)) : False := by lia
theorem om230 {a b : Nat} {c : Int} (h0 : (((a + 2) ≤ 1) ∨ ((b : Int) ≤ c))) : (¬ ((b : Int) > c)) := by lia
theorem om231  (h0 : 1 < 0) : False := by lia
theorem om232  (h0 : 1 < 1) : False := by lia
theorem om233 {a b : Nat}  : a ≤ (a + b) := by lia
theorem om234 {a b c : Nat} (h0 : (a + 1) ≤ b) (h1 : b ≤ c) : a < c := by lia
theorem om235 {a b : Nat} (h0 : (a + 1) ≤ b) : a ≤ b := by lia
theorem om236 {a b : Nat} (h0 : (a + 1) ≤ b) (h1 : 1 ≤ a) : 2 ≤ b := by lia
theorem om237 {a b : Nat} {c : Int} {d : Nat} (h0 : ((a : Int) + (b : Int)) > c) (h1 : (d : Int) ≤ c) (h2 : (a + b) ≤ d) : False := by lia
theorem om238 {a b : Nat} (h0 : a < b) : 0 < b := by lia
theorem om239 {a b : Nat} {c : Int} (h0 : (((a + b) : Nat) : Int) > c) : ((a : Int) + (b : Int)) > c := by lia
theorem om240 {a b : Nat} (h0 : a < b) (h1 : 0 < a) (h2 : (min a b) = 0) : False := by lia
theorem om241 {a b c : Nat} (h0 : 0 < a) (h1 : (min b c) = 0) (h2 : 0 < c) (h3 : b = a) : False := by lia
theorem om242 {a b c : Nat} (h0 : a < 1000) (h1 : (b + c) ≤ a) : c < 100000 := by lia
theorem om243 {a b c d : Nat} (h0 : a < 1000) (h1 : (b + c) ≤ a) (h2 : d ≤ b) : d < 100000 := by lia
theorem om244 {a b c d : Nat} (h0 : a < 1000) (h1 : (b + c) ≤ a) (h2 : d = b) : d < 100000 := by lia
theorem om245 {a b : Nat} (h0 : (a + 1) < b) : b ≠ a := by lia
theorem om246 {a b : Nat} (h0 : (a + 2) ≤ b) : (¬ (b = a)) := by lia
theorem om247 {a b : Nat} (h0 : (a + 1) < b) : (a + 2) ≤ b := by lia
theorem om248 {a b c d : Nat} (h0 : (a + b) ≤ c) (h1 : d ≤ a) : d ≤ c := by lia
theorem om249 {a b : Nat} (h0 : (a + 2) ≤ b) : a ≤ b := by lia
theorem om250 {a b c d : Nat} (h0 : (a + b) ≤ c) : (min d b) ≤ c := by lia
theorem om251 {a b : Nat} (h0 : a < b) (h1 : 0 < a) : (b - a) < b := by omega
theorem om252 {a b c : Nat} (h0 : a ≤ b) (h1 : c = (b + 1)) : a ≤ c := by lia
theorem om253 {a b : Nat} (h0 : (a + 1) < b) : (b + 1) ≠ a := by lia
theorem om254 {a b c d : Nat} (h0 : (a + b) ≤ c) (h1 : d < b) (h2 : 0 < d) : ((a + 1) + (b - d)) ≤ c := by lia
theorem om255 {a b c : Nat} (h0 : (a - b) = (c + 1)) : ((c + b) + 1) = a := by lia
theorem om256 {a b c d e : Nat} (h0 : a < 1000) (h1 : (b + c) ≤ a) (h2 : ((d + e) + 1) = c) : (d + 1) < 100000 := by lia
theorem om257 {a b : Nat} (h0 : (a + 1) < b) : (¬ (b = a)) := by lia
theorem om258 {a b : Nat} (h0 : (a + 2) ≤ b) : (¬ (b = (a + 1))) := by lia
theorem om259 {a b : Nat} (h0 : (a + 1) < b) : (¬ (b = (a + 1))) := by lia
theorem om260 {a b : Nat} (h0 : (a + 1) < b) : b ≠ (a + 1) := by lia
theorem om261 {a b c d e : Nat} (h0 : (a + 1) < b) (h1 : c = (b + 2)) (h2 : d = (c + 1)) (h3 : e = (d + 2)) : e ≠ a := by lia
theorem om262 {a b c d e : Nat} (h0 : (a + 1) < b) (h1 : c = (b + 2)) (h2 : d = (c + 1)) (h3 : e = (d + 2)) : e ≠ (a + 1) := by lia
theorem om263 {a b : Nat} (h0 : a < 1000) (h1 : b ≤ a) : b < 99999 := by lia
theorem om264 {a b c d : Nat} (h0 : a < 1000) (h1 : (b + c) ≤ a) (h2 : d = b) : (d + 1) < 100000 := by lia
theorem om265 {a b : Nat} (h0 : a < 1000) (h1 : b ≤ a) : (b + 1) < 100000 := by lia
theorem om266 {a b c d : Nat} (h0 : a < 1000) (h1 : (b + c) ≤ a) (h2 : d = b) : d < 99998 := by lia
theorem om267 {a b : Nat} (h0 : a < 1000) (h1 : (b + 1) ≤ a) : b < 99999 := by lia
theorem om268 {a b : Nat} (h0 : a < 1000) (h1 : (b + 1) ≤ a) : (b + 1) < 100000 := by lia
theorem om269 {a b c d : Nat} (h0 : a < 1000) (h1 : (b + c) ≤ a) (h2 : d = b) : (d + 2) < 100000 := by lia
theorem om270 {a b c d e : Nat} (h0 : (a + 1) < b) (h1 : c = (b + 2)) (h2 : d = (c + 1)) (h3 : e = (d + 2)) : a ≤ e := by lia
theorem om271 {a b c d e f : Nat} (h0 : (a + 1) < b) (h1 : c = (b + 2)) (h2 : d = (c + 1)) (h3 : e = (d + 2)) (h4 : f = (e + 1)) : a ≤ f := by lia
theorem om272 {a b : Nat} (h0 : (a + 2) ≤ b) : (((¬ (b = a))) ∧ ((¬ (b = (a + 1))))) := by lia
theorem om273 {a b c d e f : Nat} (h0 : (a + 1) < b) (h1 : c = (b + 2)) (h2 : d = (c + 1)) (h3 : e = (d + 2)) (h4 : f = (e + 1)) : a ≠ f := by lia
theorem om274 {a b c : Nat} (h0 : ((a + b) + 1) = c) : a < c := by lia
theorem om275 {a b : Nat} (h0 : a ≤ b) : (a + 1) ≤ (b + 1) := by lia
theorem om276 {a b c : Nat} (h0 : (a + 1) < b) (h1 : c = (b + 2)) : (c + 1) ≠ a := by lia
theorem om277 {a b c : Nat} (h0 : (a + 1) < b) (h1 : c = (b + 2)) : (c + 1) ≠ (a + 1) := by lia
theorem om278 {a b c d e : Nat} (h0 : (a + b) ≤ c) (h1 : ((d + e) + 1) = b) : ((a + 1) + d) ≤ c := by lia
theorem om279 {a b c d : Nat} (h0 : a < 1000) (h1 : (b + c) ≤ a) : (min d c) < 100000 := by lia
theorem om280 {a : Nat} (h0 : (a : Int) > (1:Int)) : (a - 1) < a := by omega
theorem om281 {a b : Nat} (h0 : a ≤ b) : (a - 1) ≤ b := by omega
theorem om282 {a : Nat} (h0 : (a : Int) > (1:Int)) : (((a - 1) : Nat) : Int) = ((a : Int) - (1:Int)) := by lia
theorem om283 {a : Nat} (h0 : (a : Int) > (1:Int)) : 1 < a := by lia
theorem om284 {a : Nat} (h0 : (¬ ((a : Int) > (1:Int)))) : a ≤ 1 := by lia
theorem om285 {a : Nat}  : (a + 2) ≠ a := by lia
theorem om286 {a b : Nat} {c : Int} (h0 : ((a : Int) + (b : Int)) ≤ c) : (((a + (b + 0)) : Nat) : Int) ≤ c := by lia
theorem om287 {a : Nat} {b : Int} (h0 : (((2 + a) : Nat) : Int) ≤ b) : (0:Int) ≤ b := by lia
theorem om288 {a b c : Nat} (h0 : a ≤ (((b + 1) + 1) + c)) : a ≤ ((b + 1) + (c + 1)) := by lia
theorem om289 {a b : Nat} {c : Int} (h0 : (¬ (((a : Int) + (b : Int)) > c))) : ((a : Int) + (b : Int)) ≤ c := by lia
theorem om290 {a b : Prop} {c d e : Nat} {f : Prop} (h0 : ((a) ∧ (((b) ∧ (((c ≤ ((d + 1) + e)) ∧ (f))))))) : c ≤ ((d + 1) + (e + 1)) := by lia
theorem om291 {a b : Nat} (h0 : (a + (0 + 1)) = (b + (0 + 1))) : ((a + (0 + 1)) + 1) = ((b + (0 + 1)) + (0 + 1)) := by lia
theorem om292 {a : Nat}  : ((a + (0 + 1)) + (0 + 1)) ≤ (((a + (0 + 1)) + 1) + 0) := by lia
theorem om293 {a b : Nat} {c : Int} (h0 : (((a + b) : Nat) : Int) ≤ c) : (a : Int) ≤ c := by lia
theorem om294 {a : Prop} {b c d e : Nat} {f : Prop} (h0 : ((a) ∧ ((((b + 1) = c) ∧ (((c ≤ ((d + 1) + e)) ∧ (f))))))) : c ≤ ((d + 1) + (e + 1)) := by lia
theorem om295 {a : Int} (h0 : a < (128:Int)) : ((Int.toNat a) % 256) < 128 := by lia
theorem om296 {a : Int} (h0 : (0:Int) ≤ a) (h1 : a < (11:Int)) : (((-100000:Int) < a) ∧ (a < (100000:Int))) := by lia
theorem om297 {a b : Nat} (h0 : a < b) : (¬ (b = a)) := by lia
theorem om298 {a : Int} {b : Nat} (h0 : a < (11:Int)) (h1 : b < (Int.toNat a)) : b < 10 := by lia
theorem om299 {a b : Nat} (h0 : a < b) : (¬ (a = b)) := by lia
theorem om300 {a b : Nat} (h0 : a = b) (h1 : b < 10) : a < 100000 := by lia
theorem om301 {a : Int} (h0 : (10:Int) ≤ a) (h1 : a ≤ (60:Int)) : (((0:Int) < (a - (5:Int))) ∧ ((a - (5:Int)) < (1073741824:Int))) := by lia
theorem om302   : (0:Int) ≤ (0:Int) := by lia
theorem om303 {a : Int} (h0 : (10:Int) ≤ a) : (0:Int) ≤ (a - (6:Int)) := by lia
theorem om304   : (0:Int) ≤ (1:Int) := by lia
theorem om305 {a : Int} (h0 : (10:Int) ≤ a) : (1:Int) ≤ (a - (6:Int)) := by lia
theorem om306 {a : Int}  : (a - (6:Int)) ≤ (a - (6:Int)) := by lia
theorem om307 {a : Int} (h0 : (0:Int) ≤ a) : (0:Int) ≤ a := by omega
theorem om308 {a b : Int} (h0 : a < (b - (5:Int))) : a ≤ (b - (6:Int)) := by lia
theorem om309 {a b : Int} (h0 : a ≤ (60:Int)) (h1 : b ≤ (a - (6:Int))) : b < (100000:Int) := by lia
theorem om310 {a : Int} (h0 : (0:Int) ≤ a) : (((Int.toNat a) : Nat) : Int) = a := by lia
theorem om311 {a b : Int} {c : Nat} (h0 : a ≤ (60:Int)) (h1 : b ≤ (a - (6:Int))) (h2 : (c : Int) = b) : c < 100000 := by lia
theorem om312 {a : Int} {b : Nat} {c : Int} {d : Nat} (h0 : a ≤ (60:Int)) (h1 : b < 10) (h2 : c ≤ (a - (6:Int))) (h3 : (d : Int) = c) : (((((0:Int) ≤ ((d : Int) + (1:Int))) ∧ (((d : Int) + (1:Int)) < (256:Int)))) ∧ ((((0:Int) ≤ ((10:Int) + (b : Int))) ∧ (((10:Int) + (b : Int)) < (256:Int))))) := by lia
theorem om313 {a b : Int} {c : Nat} (h0 : a ≤ (60:Int)) (h1 : b ≤ (a - (6:Int))) (h2 : (c : Int) = b) : (3 + c) < 100000 := by lia
theorem om314 {a b : Int} {c : Nat} (h0 : a ≤ (b - (6:Int))) (h1 : (c : Int) = a) : ((((c : Int) + (1:Int)) + (1:Int)) + (1:Int)) ≤ (b - (1:Int)) := by lia
theorem om315 {a : Nat}  : (0:Int) ≤ ((a : Int) + (1:Int)) := by lia
theorem om316 {a b : Int} {c : Nat} (h0 : a ≤ (60:Int)) (h1 : b ≤ (a - (6:Int))) (h2 : (c : Int) = b) : ((c : Int) + (1:Int)) < (128:Int) := by lia
theorem om317 {a : Nat}  : (0:Int) ≤ ((10:Int) + (a : Int)) := by lia
theorem om318 {a : Nat} (h0 : a < 10) : ((10:Int) + (a : Int)) < (128:Int) := by lia
theorem om319 {a : Int} (h0 : a = (13:Int)) (h1 : a < (10:Int)) : False := by lia
theorem om320 {a b : Int} {c : Nat} (h0 : a ≤ (60:Int)) (h1 : b ≤ (a - (6:Int))) (h2 : (c : Int) = b) : (2 + c) < 100000 := by lia
theorem om321 {a b : Int} {c : Nat} (h0 : a ≤ (b - (6:Int))) (h1 : (c : Int) = a) : (((c : Int) + (1:Int)) + (1:Int)) ≤ (b - (1:Int)) := by lia
theorem om322 {a : Int} (h0 : a = (10:Int)) (h1 : a < (10:Int)) : False := by lia
theorem om323 {a : Nat} (h0 : a < 10) : (((0:Int) ≤ ((100:Int) + (a : Int))) ∧ (((100:Int) + (a : Int)) < (65536:Int))) := by lia
theorem om324 {a : Nat} (h0 : a < 10) : (((0:Int) ≤ ((10:Int) + (a : Int))) ∧ (((10:Int) + (a : Int)) < (256:Int))) := by lia
theorem om325 {a b : Int} {c : Nat} (h0 : a ≤ (60:Int)) (h1 : b ≤ (a - (6:Int))) (h2 : (c : Int) = b) : (5 + c) < 100000 := by lia
theorem om326 {a b : Int} {c : Nat} (h0 : a ≤ (b - (6:Int))) (h1 : (c : Int) = a) : ((((((c : Int) + (1:Int)) + (1:Int)) + (1:Int)) + (1:Int)) + (1:Int)) ≤ (b - (1:Int)) := by lia
theorem om327 {a : Nat}  : (0:Int) ≤ ((100:Int) + (a : Int)) := by lia
theorem om328 {a : Nat} (h0 : a < 10) : ((100:Int) + (a : Int)) < (65536:Int) := by lia
theorem om329 {a : Int} {b c : Nat} (h0 : a < (11:Int)) (h1 : b ≤ (Int.toNat a)) (h2 : c = b) : c ≤ 10 := by lia
theorem om330 {a b c : Nat} (h0 : (6 * a) ≤ b) : (6 * (a + 1)) ≤ ((2 + (max 4 c)) + b) := by lia
theorem om331 {a : Nat} (h0 : 0 < a) : ((a - 1) + 1) = a := by lia
theorem om332 {a : Int} (h0 : a < (10:Int)) : a ≠ (13:Int) := by lia
theorem om333 {a b : Nat} (h0 : (a + 1) = b) : a ≤ b := by lia
theorem om334 {a b : Nat} (h0 : a < 1000) (h1 : b ≤ a) : b < 100000 := by lia
theorem om335 {a b : Nat} (h0 : a < b) : (((¬ (a = b))) ∧ ((¬ (a = (b + 1))))) := by lia
theorem om336 {a b c : Nat} (h0 : a = b) (h1 : c < b) : c < a := by lia
theorem om337 {a b : Nat} {c : Int} {d : Nat} (h0 : a ≤ 1000) (h1 : (b : Int) ≤ ((a : Int) - c)) (h2 : (6 * d) ≤ b) (h3 : (8:Int) ≤ c) : d < 256 := by lia
theorem om338 {a : Int} (h0 : ((a = (13:Int)) ∨ (((a = (10:Int)) ∨ (((a = (2:Int)) ∨ (a = (5:Int)))))))) : (((0:Int) ≤ a) ∧ (a < (256:Int))) := by lia
theorem om339 {a b c : Nat} (h0 : a < 1000) (h1 : b < a) : (min b c) < 100000 := by lia
theorem om340 {a b c : Nat} (h0 : (a + 1) = b) (h1 : ((c : Int) + (1:Int)) < (b : Int)) : c < a := by lia
theorem om341 {a b c : Nat} (h0 : a < 30000) (h1 : b < 1000) (h2 : ((c : Int) + (1:Int)) < (b : Int)) : (((0:Int) ≤ (((a + c) : Nat) : Int)) ∧ ((((a + c) : Nat) : Int) < (65536:Int))) := by lia
theorem om342 {a b c : Nat} (h0 : a < 1000) (h1 : ((b : Int) + (1:Int)) < (a : Int)) : (min b c) < 100000 := by lia
theorem om343 {a b : Nat} (h0 : ((a : Int) + (1:Int)) < (b : Int)) : a < (min (b - 1) b) := by omega
theorem om344 {a : Nat} (h0 : ((a + 1) + 1) < 1000) : ((a + 1) + 1) < 100000 := by lia
theorem om345 {a b c : Nat} (h0 : ((a : Int) + (1:Int)) < (b : Int)) (h1 : (c + 1) = b) : a < c := by lia
theorem om346 {a : Nat} (h0 : a < 1000) : (4 + (a - 4)) < 100000 := by omega
theorem om347 {a b c : Nat} (h0 : (a + 1) = b) (h1 : (¬ (((c : Int) + (1:Int)) < (b : Int)))) : a ≤ c := by lia
theorem om348 {a b c : Nat} (h0 : (a + 1) = b) (h1 : (¬ (((c : Int) + (1:Int)) < (b : Int)))) : a ≤ (c + 1) := by lia
theorem om349 {a b : Nat} {c : Int} (h0 : (¬ (((a < b) ∧ (c < (10:Int)))))) (h1 : c < (10:Int)) : b ≤ a := by lia
theorem om350 {a b c : Nat} (h0 : a < b) (h1 : (c + 1) = b) : (a - c) = 0 := by lia
theorem om351 {a : Nat} (h0 : 4 ≤ a) : (2:Int) < (a : Int) := by lia
theorem om352 {a : Nat} (h0 : 4 ≤ a) : (3:Int) < (a : Int) := by lia
theorem om353 {a b c : Nat} (h0 : (a + 1) = b) : (((c : Int) + (b : Int)) - (1:Int)) = ((((c + b) - 1) : Nat) : Int) := by lia
theorem om354 {a b : Nat} (h0 : a ≤ b) : ((a ≤ b) ∧ (a ≤ (b + 1))) := by lia
theorem om355 {a b : Nat} (h0 : a ≤ b) : a ≤ (b + 1) := by lia
theorem om356 {a b c : Nat} (h0 : a < b) (h1 : b = c) : a < c := by lia
theorem om357 {a b c d : Nat} (h0 : a = b) (h1 : c < d) (h2 : d = b) : c < a := by lia
theorem om358 {a : Int} {b : Nat} {c : Int} {d : Nat} (h0 : a = ((((b : Int) - c) / (2:Int)) - (2:Int))) (h1 : (d : Int) ≤ (a - (1:Int))) : (((2 + (max 4 d)) : Nat) : Int) ≤ ((b : Int) - c) := by lia
theorem om359 {a : Nat} {b c : Int} {d : Nat} (h0 : ((a = 64) ∨ (a = 128))) (h1 : b = ((((a : Int) - c) / (2:Int)) - (2:Int))) (h2 : ((c = (8:Int)) ∨ (c = (12:Int)))) (h3 : (d : Int) ≤ (b - (1:Int))) : d < 1000 := by lia
theorem om360 {a : Nat} {b : Int} {c d : Nat} (h0 : ((a = 64) ∨ (a = 128))) (h1 : ((b = (8:Int)) ∨ (b = (12:Int)))) (h2 : (6 * c) ≤ d) (h3 : (d : Int) ≤ ((a : Int) - b)) : c < 1000 := by lia
theorem om361 {a : Nat} {b : Int} (h0 : ((a = 64) ∨ (a = 128))) (h1 : ((b = (8:Int)) ∨ (b = (12:Int)))) : b ≤ (a : Int) := by lia
theorem om362 {a : Nat} (h0 : ((a = 64) ∨ (a = 128))) : a ≤ 1000 := by lia
theorem om363 {a b : Nat} (h0 : a ≤ 10) (h1 : b ≤ (1 + a)) : b < 1000 := by lia
theorem om364 {a : Nat} {b : Int} (h0 : ((a = 64) ∨ (a = 128))) (h1 : ((b = (8:Int)) ∨ (b = (12:Int)))) : (0:Int) ≤ ((a : Int) - b) := by lia
theorem om365 {a : Int} (h0 : ((a = (2:Int)) ∨ (a = (5:Int)))) : a < (10:Int) := by lia
theorem om366 {a : Int} (h0 : ((a = (2:Int)) ∨ (a = (5:Int)))) : (¬ (a > (5:Int))) := by lia
theorem om367 {a : Int} (h0 : ((a = (2:Int)) ∨ (a = (5:Int)))) : (((0:Int) ≤ a) ∧ (a < (256:Int))) := by lia
theorem om368 {a : Int} (h0 : (¬ (a > (5:Int)))) : (¬ (a = (10:Int))) := by omega
theorem om369 {a : Int} (h0 : (0:Int) ≤ a) (h1 : a < (900:Int)) : (((0:Int) ≤ ((1:Int) + a)) ∧ (((1:Int) + a) < (65536:Int))) := by lia
theorem om370 {a b c d : Nat} (h0 : a < b) (h1 : c = (b + 4)) (h2 : c ≤ d) : d ≠ a := by lia
theorem om371 {a b : Nat} (h0 : a < b) : (¬ ((b + 1) = a)) := by lia
theorem om372 {a b : Nat} (h0 : a < b) : (¬ ((b + 2) = a)) := by lia
theorem om373 {a b c d : Nat} (h0 : a < b) (h1 : c = (b + 4)) (h2 : c ≤ d) : (¬ (d = a)) := by lia
theorem om374 {a : Int} (h0 : (0:Int) ≤ a) (h1 : a < (3:Int)) : (((-100000:Int) < ((1:Int) + a)) ∧ (((1:Int) + a) < (100000:Int))) := by lia
theorem om375 {a : Int}  : 0 ≤ (Int.toNat ((1:Int) + a)) := by lia
theorem om376 {a : Int} {b : Nat} (h0 : a < (3:Int)) (h1 : b < (Int.toNat ((1:Int) + a))) : b < 10000 := by lia
theorem om377 {a : Int} {b : Nat} (h0 : (0:Int) ≤ a) (h1 : (Int.toNat ((1:Int) + a)) = b) : 0 < b := by lia
theorem om378 {a : Nat} (h0 : 0 < a) (h1 : a = 0) : False := by omega
theorem om379 {a : Int} {b : Nat} (h0 : a < (3:Int)) (h1 : (Int.toNat ((1:Int) + a)) = b) : b < 100000 := by lia
theorem om380 {a : Nat}  : ((a : Int) + (1:Int)) = (((a + 1) : Nat) : Int) := by lia
theorem om381 {a b : Nat} (h0 : a < b) : (¬ (a = (b + 2))) := by lia
theorem om382 {a : Nat} (h0 : a ≤ 10) : a < 1000 := by lia
theorem om383 {a : Int} {b : Nat} (h0 : a < (3:Int)) (h1 : (Int.toNat ((1:Int) + a)) = b) : (b + 1) < 30000 := by lia
theorem om384 {a b : Nat}  : (((a + 1) + b) - 1) = (a + b) := by lia
theorem om385 {a : Int} {b : Nat} (h0 : a < (3:Int)) (h1 : (Int.toNat ((1:Int) + a)) = b) : (b : Int) < (100000:Int) := by lia
theorem om386 {a : Int} {b c : Nat} (h0 : a < (3:Int)) (h1 : (Int.toNat ((1:Int) + a)) = b) (h2 : c < 1000) : (b + c) < 100000 := by lia
theorem om387 {a : Int} {b c : Nat} (h0 : a < (3:Int)) (h1 : (Int.toNat ((1:Int) + a)) = b) (h2 : c = b) : c < 5000 := by lia
theorem om388 {a : Nat} (h0 : ((a = 64) ∨ (a = 128))) : a = ((a - 4) + 4) := by lia
theorem om389 {a b : Nat} (h0 : ((a = 64) ∨ (a = 128))) (h1 : a = (b + 4)) : 60 ≤ b := by lia
theorem om390 {a b : Nat} (h0 : ((a = 64) ∨ (a = 128))) (h1 : a = (b + 4)) : b ≤ 124 := by lia
theorem om391 {a : Nat} (h0 : 60 ≤ a) (h1 : a ≤ 124) : (((0:Int) < ((3:Int) * (a : Int))) ∧ (((3:Int) * (a : Int)) < (1073741824:Int))) := by lia
theorem om392 {a : Nat} (h0 : 60 ≤ a) : 0 < a := by lia
theorem om393 {a : Nat}  : a ≤ (3 * a) := by lia
theorem om394 {a : Nat} (h0 : 60 ≤ a) : 0 < (2 * a) := by lia
theorem om395 {a : Nat}  : (2 * a) ≤ (3 * a) := by lia
theorem om396 {a : Int} (h0 : (0:Int) ≤ a) : ((1:Int) + a) = (max ((1:Int) + a) (0:Int)) := by lia
theorem om397 {a : Int} (h0 : (0:Int) ≤ a) : 0 < (Int.toNat ((1:Int) + a)) := by lia
theorem om398 {a : Int} {b : Nat} (h0 : a < ((3:Int) * (b : Int))) : (Int.toNat ((1:Int) + a)) ≤ (3 * b) := by lia
theorem om399 {a b : Nat} (h0 : a ≤ 124) (h1 : b ≤ (3 * a)) : (((0:Int) ≤ (b : Int)) ∧ ((b : Int) < (100000:Int))) := by lia
theorem om400 {a b : Nat} (h0 : a ≤ 124) (h1 : b ≤ (3 * a)) : b < 100000 := by lia
theorem om401 {a : Nat} (h0 : 0 < a) (h1 : 0 = a) : False := by lia
theorem om402 {a b : Nat} (h0 : a = (b + 4)) (h1 : b ≤ 124) : (((0:Int) ≤ (a : Int)) ∧ ((a : Int) < (100000:Int))) := by lia
theorem om403 {a : Int} {b c : Nat} (h0 : a < (3:Int)) (h1 : (Int.toNat ((1:Int) + a)) = b) (h2 : c = b) : (c : Int) < (100000:Int) := by lia
theorem om404 {a b : Nat} (h0 : a < b) (h1 : (b - a) = 0) : False := by lia
theorem om405 {a b : Nat} (h0 : a ≤ b) (h1 : (¬ (a < b))) : a = b := by lia
theorem om406 {a b c d : Nat} (h0 : a < b) (h1 : (b + 2) < c) (h2 : c ≤ d) : (((¬ ((b + 1) = a))) ∧ ((¬ (b = (d + 1))))) := by lia
theorem om407 {a b c d : Nat} (h0 : a < b) (h1 : (b + 2) < c) (h2 : c ≤ d) : (((¬ (b = a))) ∧ ((¬ (b = (d + 2))))) := by lia
theorem om408 {a b c d : Nat} (h0 : a < b) (h1 : (b + 2) < c) (h2 : c ≤ d) : (((¬ ((b + 2) = a))) ∧ ((¬ (b = d)))) := by lia
theorem om409 {a b c : Nat} (h0 : a ≤ 124) (h1 : b ≤ (3 * a)) (h2 : c = b) : c < 5000 := by lia
theorem om410 {a : Nat}  : (((a + 1) : Nat) : Int) = ((a : Int) + (1:Int)) := by lia
theorem om411 {a b c : Nat} (h0 : (a + 2) < b) (h1 : b ≤ c) : (¬ (c = a)) := by lia
theorem om412 {a b c d : Nat} (h0 : (a + 2) < b) (h1 : b ≤ c) : (((c + 2) = d) ∨ (a ≤ (c + 2))) := by lia
theorem om413 {a b c d : Nat} (h0 : a ≤ 124) (h1 : b ≤ (3 * a)) (h2 : c = b) : (c - d) < 100000 := by lia
theorem om414 {a b : Nat} (h0 : a ≤ 124) (h1 : b ≤ a) : b < 100000 := by lia
theorem om415 {a : Nat} {b : Int} {c d e f g : Nat} (h0 : a ≤ 124) (h1 : b < (3:Int)) (h2 : (Int.toNat ((1:Int) + b)) = c) (h3 : d ≤ (3 * a)) (h4 : e = d) (h5 : f < e) (h6 : (g * 60) ≤ f) : (c + g) < 100000 := by lia
theorem om416 {a b c : Nat} (h0 : 60 ≤ a) (h1 : b < c) : (c - (b + a)) < (c - b) := by omega
theorem om417 {a b : Nat} (h0 : a ≤ 124) (h1 : b ≤ a) : (((0:Int) ≤ ((a : Int) - (b : Int))) ∧ (((a : Int) - (b : Int)) < (100000:Int))) := by lia
theorem om418 {a b : Nat} (h0 : a ≤ 124) (h1 : (((0:Int) ≤ ((a : Int) - (b : Int))) ∧ (((a : Int) - (b : Int)) < (100000:Int)))) : (((((b + 1) + 1) + 1) + 1) + (a - b)) < 100000 := by lia
theorem om419 {a b : Nat} (h0 : a ≤ 124) (h1 : (((0:Int) ≤ ((a : Int) - (b : Int))) ∧ (((a : Int) - (b : Int)) < (100000:Int)))) : (4 + b) < 100000 := by lia
theorem om420 {a b : Nat}  : ((((a + b) : Nat) : Int) + (2:Int)) = ((((a + b) + 2) : Nat) : Int) := by lia
theorem om421 {a : Nat} {b : Int} {c d e f g : Nat} (h0 : a ≤ 124) (h1 : b < (3:Int)) (h2 : (Int.toNat ((1:Int) + b)) = c) (h3 : d ≤ (3 * a)) (h4 : e = d) (h5 : f < e) (h6 : (g * 60) ≤ f) : (((0:Int) ≤ ((((c + g) + 2) : Nat) : Int)) ∧ (((((c + g) + 2) : Nat) : Int) < (65536:Int))) := by lia
theorem om422 {a : Nat} (h0 : a < 1000) : a ≤ 16777216 := by lia
theorem om423   : 3 ≤ (16777216 + 2) := by lia
theorem om424 {a b c : Nat} (h0 : (a + (3 * b)) < c) : ((a + 1) + (3 * b)) < (c + 1) := by lia
theorem om425 {a b c : Nat} (h0 : ((a + (20 * b)) + 200) < c) : (((a + 1) + (20 * b)) + 200) < (c + 10) := by lia
theorem om426 {a : Int} (h0 : a < (100000:Int)) : a ≤ (1000000:Int) := by lia
theorem om427 {a : Nat} (h0 : a < 100000) : a ≤ 1000000 := by lia
theorem om428 {a b : Nat} (h0 : a ≤ b) (h1 : (b - a) = 0) : a = b := by lia
theorem om429 {a b : Int} (h0 : a < b) : (0:Int) ≤ ((b - a) - (1:Int)) := by lia
theorem om430 {a : Int} (h0 : (0:Int) < a) : (0:Int) ≤ a := by lia
theorem om431 {a b c : Int} (h0 : (-1000000:Int) ≤ a) (h1 : b ≤ (1000000:Int)) (h2 : c ≤ ((b - a) - (1:Int))) : (c + (1:Int)) ≤ (2000001:Int) := by lia
theorem om432   : (0:Int) ≤ (2000001:Int) := by lia
theorem om433 {a : Int} (h0 : (0:Int) < a) : a > (0:Int) := by omega
theorem om434   : (-1000000:Int) ≤ (0:Int) := by lia
theorem om435   : (0:Int) ≤ (1000000:Int) := by lia
theorem om436 {a : Int} (h0 : (-100000:Int) < a) : (-1000000:Int) ≤ a := by lia
theorem om437   : (0:Int) < (1:Int) := by lia
theorem om438   : (1:Int) ≤ (1000000:Int) := by lia
theorem om439 {a : Int} (h0 : (0:Int) < a) : a ≠ (0:Int) := by lia
theorem om440 {a : Int} (h0 : (0:Int) < a) (h1 : a < (100000:Int)) : (Int.natAbs a) < 1073741824 := by omega
theorem om441 {a : Int} (h0 : (0:Int) ≤ a) : (-1000000:Int) ≤ a := by lia
theorem om442 {a : Int} (h0 : (0:Int) < a) : (0:Int) < a := by omega
theorem om443 {a b c d e : Nat} (h0 : a < (min b (min c (min d e)))) : a < b := by lia
theorem om444 {a b c d e : Nat} (h0 : a < (min b (min c (min d e)))) : a < c := by lia
theorem om445 {a b c d e : Nat} (h0 : a < (min b (min c (min d e)))) : a < (min b c) := by omega
theorem om446 {a b c d e : Nat} (h0 : a < (min b (min c (min d e)))) : a < d := by omega
theorem om447 {a b c d e : Nat} (h0 : a < (min b (min c (min d e)))) : a < e := by omega
theorem om448 {a b c d : Nat} (h0 : a = b) (h1 : c = b) (h2 : d = b) : (min b (min a (min c d))) = d := by lia
theorem om449 {a b c d : Nat} (h0 : a = b) (h1 : c = b) (h2 : d = b) : (min b (min a (min c d))) = a := by lia
theorem om450 {a b c d e : Nat} (h0 : a < (min b (min c (min d e)))) : a < (min c (min b (min d e))) := by lia
theorem om451 {a b c d : Nat}  : (min a (min b (min c d))) = (min b (min a (min c d))) := by lia
theorem om452 {a b c d : Nat} (h0 : a = b) (h1 : c = b) (h2 : d = b) : (min a (min b (min c d))) = a := by lia
theorem om453 {a b c d : Nat} (h0 : a = b) (h1 : c = b) (h2 : d = b) : (min a (min b (min c d))) = d := by lia
theorem om454 {a b c : Nat} (h0 : ((a + (20 * b)) + 200) < c) : (a + 100) < c := by lia
theorem om455 {a b c : Nat} (h0 : ((a + (20 * b)) + 200) < c) : a < c := by lia
theorem om456 {a b c : Nat} (h0 : (a + (3 * (b + 1))) < c) : (a + (3 * b)) < c := by lia
theorem om457 {a b c : Nat} (h0 : ((a + (20 * (b + 1))) + 200) < c) : (((a + 1) + (20 * b)) + 200) < c := by lia
theorem om458 {a b c : Nat} (h0 : ((a + (20 * b)) + 200) < c) : ((a + (20 * b)) + 200) < (c + 10) := by lia
theorem om459 {a b c : Nat} (h0 : (a + (3 * (b + 1))) < (c + 1)) : a < c := by lia
theorem om460 {a b c d : Nat} (h0 : a = b) (h1 : c = a) : (min b d) ≤ c := by lia
theorem om461 {a b c d e : Nat} (h0 : a = b) (h1 : b ≤ c) (h2 : d = a) (h3 : e < a) : e < (min b (min c d)) := by lia
theorem om462 {a b c : Nat} (h0 : (a + (3 * (b + 1))) < (c + 1)) : ((a + 1) + (3 * b)) < c := by lia
theorem om463 {a b c : Nat} (h0 : ((a + (20 * (b + 1))) + 200) < (c + 10)) : (((a + 3) + (20 * b)) + 200) < c := by lia
theorem om464 {a : Nat} (h0 : (¬ ((63 : Int) < (a : Int)))) : a ≤ 63 := by lia
theorem om465 {a b : Nat} (h0 : a ≤ (b + 1)) : a ≤ (b + 1) := by omega
theorem om466 {a b : Nat} (h0 : a < 100) (h1 : b ≤ (a + 1)) : b ≤ (16777216 + 1) := by lia
theorem om467 {a : Int} {b : Nat} (h0 : a < (0:Int)) (h1 : (-(b : Int)) ≤ a) : (Int.toNat (a + (b : Int))) < b := by lia
theorem om468 {a : Int} {b c : Nat} (h0 : (((a + (b : Int)) < (b : Int)) ∧ ((0:Int) ≤ (a + (b : Int))))) (h1 : c = b) : (-(c : Int)) ≤ a := by lia
theorem om469 {a : Int} {b : Nat} (h0 : ((a < (b : Int)) ∧ ((0:Int) ≤ a))) : (0:Int) ≤ a := by lia
theorem om470 {a : Int} {b c : Nat} (h0 : ((a < (b : Int)) ∧ ((0:Int) ≤ a))) (h1 : c = b) : a < (c : Int) := by lia
theorem om471 {a : Nat} (h0 : a < 100000) : a ≤ 16777216 := by lia
theorem om472 {a : Int} (h0 : (0:Int) ≤ a) : (0:Int) ≤ (a / (256:Int)) := by lia
theorem om473 {a : Int} (h0 : a < (65536:Int)) : (a / (256:Int)) < (256:Int) := by lia
theorem om474 {a : Nat} (h0 : a < 20) : a < 30 := by lia
theorem om475 {a b : Nat} (h0 : a < b) : (0:Int) < ((b : Int) - (a : Int)) := by lia
theorem om476 {a b c : Int}  : (a + (b + ((1:Int) * c))) = ((a + b) + c) := by lia
theorem om477 {a b : Nat}  : ((a : Int) - (((b + 1) : Nat) : Int)) = (((a : Int) - (b : Int)) - (1:Int)) := by lia
theorem om478 {a b : Nat} (h0 : (a - b) > 0) : (0 + 1) ≤ (a - b) := by lia
theorem om479 {a b : Nat} (h0 : a ≥ b) (h1 : (a - b) = 0) : a = b := by lia
theorem om480 {a b c : Nat} (h0 : a ≤ 1000000) (h1 : b = c) (h2 : c < a) : b ≤ 16777216 := by lia
theorem om481 {a b : Nat} {c : Prop} (h0 : (((a + b) < 100000) ∧ (c))) : (a + b) ≤ 16777216 := by lia
theorem om482 {a b c d : Nat} (h0 : (a + b) < 100000) (h1 : c = a) (h2 : d = b) : (c + d) ≤ 16777216 := by lia
theorem om483 {a : Int} (h0 : (0:Int) ≤ a) : (-1048576:Int) ≤ a := by lia
theorem om484 {a : Int} (h0 : a < (100000:Int)) : a ≤ (1048576:Int) := by lia
theorem om485 {a : Nat} (h0 : a = 1) : a ≤ 16 := by lia
theorem om486 {a : Int} (h0 : a < (100000:Int)) : a ≤ (16777216:Int) := by lia
theorem om487 {a : Int} {b : Prop} (h0 : (((((0:Int) < a) ∧ (a < (1073741824:Int)))) ∧ (b))) : (Int.natAbs a) < 1073741824 := by omega
theorem om488 {a b : Int} {c : Nat} {d : Prop} (h0 : (((((0:Int) ≤ a) ∧ (((a ≤ (1000:Int)) ∧ ((Int.natAbs b) < c))))) ∧ (d))) : a ≤ (1000000:Int) := by omega
theorem om489 {a : Nat} (h0 : a ≤ 64) : (a : Int) ≤ (64:Int) := by lia
theorem om490 {a b : Nat} (h0 : (a + 100) < b) : a < b := by lia
theorem om491 {a b : Nat} (h0 : (a + 100) < b) : (a + 1) < b := by lia
theorem om492 {a : Nat} (h0 : a < 100000) : a ≤ 1099511627776 := by lia
theorem om493 {a b : Nat} (h0 : a < 100000) (h1 : b = a) : (b + (0 + 1)) ≤ 16777216 := by lia
theorem om494 {a : Nat}  : (¬ ((a : Int) < (0:Int))) := by lia
theorem om495 {a b : Nat} (h0 : a < b) : (((a : Int) < (b : Int)) ∧ ((0:Int) ≤ (a : Int))) := by lia
theorem om496 {a : Nat} (h0 : 0 < a) : (-(a : Int)) < (0:Int) := by lia
theorem om497 {a b : Nat} (h0 : 0 < a) (h1 : a ≤ b) : ((((-(a : Int)) + (b : Int)) < (b : Int)) ∧ ((0:Int) ≤ ((-(a : Int)) + (b : Int)))) := by lia
theorem om498 {a b : Nat}  : (Int.toNat ((-(a : Int)) + (b : Int))) = (b - a) := by lia
theorem om499 {a : Nat} (h0 : a < 99999) : (a + 1) < 100000 := by lia
theorem om500 {a : Nat} (h0 : a < 99998) : (a + 2) < 100000 := by lia
theorem om501 {a b c : Nat} (h0 : a < (b + 1)) (h1 : c < a) : c < b := by lia
theorem om502 {a : Int}  : (((a - (0:Int)) - (1:Int)) + (1:Int)) = a := by lia
theorem om503 {a : Int} (h0 : (¬ ((0:Int) < a))) : a ≤ (0:Int) := by lia
end Mine
end
section
open PySem PySem.W PyProof.Rows
namespace Mine
abbrev pw : Program := PySem.Challenge.pw_xw0236_01

noncomputable abbrev pF : Program := pw
theorem pw_eq : pw = pF := rfl
noncomputable def pbF (i : Nat) : Stmt := (pF.main.body[i]?).getD (.Pass default)
noncomputable def inCls : Stmt → Nat → Stmt
  | .ClassDef (body := b) .., j => (b[j]?).getD (.Pass default)
  | s, _ => s
noncomputable def pmF (i j : Nat) : Stmt := inCls (pbF i) j
noncomputable def nameOfDef : Stmt → Str
  | .FunctionDef (name := n) .. => n
  | _ => default
noncomputable def paramsOfDef : Stmt → Arguments
  | .FunctionDef (args := n) .. => n
  | _ => default
noncomputable def bodyOfDef : Stmt → List Stmt
  | .FunctionDef (body := n) .. => n
  | _ => default
noncomputable def scopeOfDef : Stmt → Scope
  | .FunctionDef (scope := n) .. => n
  | _ => default
noncomputable def fnD (st : Stmt) (q : Str) (g b : Nat) (pm doc dV kV ct cd : Value) : Data :=
  .func { name := nameOfDef st, qualname := q, params := paramsOfDef st, body := .stmts (bodyOfDef st), scope := scopeOfDef st, globals := g, closure := [], defaults := dV, kwdefaults := kV, doc, pyModule := pm, annotations := none, code := cd, closureTuple := ct, builtins := b }
noncomputable def eF (P : Params) (n : Str) (t : Tok) (v : Value) : DictEntry := ⟨PyData.keyHash P n, .str n t, v⟩
abbrev Life.mk : Life := {}
def s0 : Str := ⟨⟨[60, 109, 111, 100, 117, 108, 101, 62]⟩⟩ -- <module>
def s1 : Str := ⟨⟨[47, 99, 108, 97, 105, 109, 47, 99, 117, 116, 46, 112, 121]⟩⟩ -- /claim/cut.py
def s2 : Str := ⟨⟨[95, 95, 109, 97, 105, 110, 95, 95]⟩⟩ -- __main__
def s3 : Str := ⟨⟨[116, 121, 112, 101, 46, 95, 95, 115, 117, 98, 99, 108, 97, 115, 115, 101, 115, 95, 95, 46, 69, 120, 99, 101, 112, 116, 105, 111, 110, 46, 48]⟩⟩ -- type.__subclasses__.Exception.0
def s4 : Str := ⟨⟨[116, 121, 112, 101, 46, 95, 95, 115, 117, 98, 99, 108, 97, 115, 115, 101, 115, 95, 95, 46, 69, 120, 99, 101, 112, 116, 105, 111, 110, 46, 110]⟩⟩ -- type.__subclasses__.Exception.n
def s5 : Str := ⟨⟨[95, 95, 110, 97, 109, 101, 95, 95]⟩⟩ -- __name__
def s6 : Str := ⟨⟨[112, 97, 103, 101, 98, 97, 115, 101, 46, 101, 114, 114, 111, 114, 115]⟩⟩ -- pagebase.errors
def s7 : Str := ⟨⟨[95, 95, 100, 111, 99, 95, 95]⟩⟩ -- __doc__
def s8 : Str := ⟨⟨[95, 95, 112, 97, 99, 107, 97, 103, 101, 95, 95]⟩⟩ -- __package__
def s9 : Str := ⟨⟨[95, 95, 108, 111, 97, 100, 101, 114, 95, 95]⟩⟩ -- __loader__
def s10 : Str := ⟨⟨[95, 95, 115, 112, 101, 99, 95, 95]⟩⟩ -- __spec__
def s11 : Str := ⟨⟨[95, 95, 97, 110, 110, 111, 116, 97, 116, 105, 111, 110, 115, 95, 95]⟩⟩ -- __annotations__
def s12 : Str := ⟨⟨[95, 95, 98, 117, 105, 108, 116, 105, 110, 115, 95, 95]⟩⟩ -- __builtins__
def s13 : Str := ⟨⟨[95, 95, 102, 105, 108, 101, 95, 95]⟩⟩ -- __file__
def s14 : Str := ⟨⟨[95, 95, 99, 97, 99, 104, 101, 100, 95, 95]⟩⟩ -- __cached__
def s15 : Str := ⟨⟨[95, 119, 97, 108, 108]⟩⟩ -- _wall
def s16 : Str := ⟨⟨[80, 97, 103, 101, 98, 97, 115, 101, 69, 114, 114, 111, 114]⟩⟩ -- PagebaseError
def s17 : Str := ⟨⟨[107]⟩⟩ -- k
def s18 : Str := ⟨⟨[95, 95, 109, 111, 100, 117, 108, 101, 95, 95]⟩⟩ -- __module__
def s19 : Str := ⟨⟨[95, 95, 113, 117, 97, 108, 110, 97, 109, 101, 95, 95]⟩⟩ -- __qualname__
def s20 : Str := ⟨⟨[95, 95, 102, 105, 114, 115, 116, 108, 105, 110, 101, 110, 111, 95, 95]⟩⟩ -- __firstlineno__
def s21 : Str := ⟨⟨[95, 95, 105, 110, 105, 116, 95, 95]⟩⟩ -- __init__
def s22 : Str := ⟨⟨[95, 95, 115, 116, 97, 116, 105, 99, 95, 97, 116, 116, 114, 105, 98, 117, 116, 101, 115, 95, 95]⟩⟩ -- __static_attributes__
def s23 : Str := ⟨⟨[115, 101, 108, 102]⟩⟩ -- self
def s24 : Str := ⟨⟨[109, 101, 115, 115, 97, 103, 101]⟩⟩ -- message
def s25 : Str := ⟨⟨[80, 97, 103, 101, 98, 97, 115, 101, 69, 114, 114, 111, 114, 46, 95, 95, 105, 110, 105, 116, 95, 95]⟩⟩ -- PagebaseError.__init__
def s26 : Str := ⟨⟨[95, 95, 119, 101, 97, 107, 114, 101, 102, 95, 95]⟩⟩ -- __weakref__
def s27 : Str := ⟨⟨[67, 111, 114, 114, 117, 112, 116, 69, 114, 114, 111, 114]⟩⟩ -- CorruptError
def s28 : Str := ⟨⟨[112, 97, 103, 101, 98, 97, 115, 101, 46, 110, 111, 100, 101, 95, 118, 105, 101, 119]⟩⟩ -- pagebase.node_view
def s29 : Str := ⟨⟨[77, 105, 115, 117, 115, 101, 69, 114, 114, 111, 114]⟩⟩ -- MisuseError
def s30 : Str := ⟨⟨[72, 69, 65, 68, 69, 82, 95, 83, 73, 90, 69]⟩⟩ -- HEADER_SIZE
def s31 : Str := ⟨⟨[76, 69, 65, 70, 95, 75, 69, 89, 83]⟩⟩ -- LEAF_KEYS
def s32 : Str := ⟨⟨[76, 69, 65, 70, 95, 82, 79, 87, 83]⟩⟩ -- LEAF_ROWS
def s33 : Str := ⟨⟨[76, 69, 65, 83, 84, 95, 67, 69, 76, 76]⟩⟩ -- LEAST_CELL
def s34 : Str := ⟨⟨[116, 119, 111, 95, 97, 116]⟩⟩ -- two_at
def s35 : Str := ⟨⟨[102, 111, 117, 114, 95, 97, 116]⟩⟩ -- four_at
def s36 : Str := ⟨⟨[112, 117, 116, 95, 116, 119, 111]⟩⟩ -- put_two
def s37 : Str := ⟨⟨[112, 117, 116, 95, 102, 111, 117, 114]⟩⟩ -- put_four
def s38 : Str := ⟨⟨[111, 99, 116, 101, 116, 115]⟩⟩ -- octets
def s39 : Str := ⟨⟨[97, 116]⟩⟩ -- at
def s40 : Str := ⟨⟨[110, 117, 109, 98, 101, 114]⟩⟩ -- number
def s41 : Str := ⟨⟨[112, 97, 103, 101, 98, 97, 115, 101, 46, 108, 97, 121, 111, 117, 116]⟩⟩ -- pagebase.layout
def s42 : Str := ⟨⟨[102, 111, 117, 114, 95, 111, 99, 116, 101, 116, 115]⟩⟩ -- four_octets
def s43 : Str := ⟨⟨[105, 115, 95, 108, 101, 97, 102]⟩⟩ -- is_leaf
def s44 : Str := ⟨⟨[104, 101, 97, 100, 95, 115, 105, 122, 101]⟩⟩ -- head_size
def s45 : Str := ⟨⟨[87, 79, 82, 68]⟩⟩ -- WORD
def s46 : Str := ⟨⟨[112, 117, 116, 95, 118, 97, 114, 105, 110, 116]⟩⟩ -- put_varint
def s47 : Str := ⟨⟨[103, 101, 116, 95, 118, 97, 114, 105, 110, 116]⟩⟩ -- get_varint
def s48 : Str := ⟨⟨[80, 79, 73, 78, 84, 69, 82]⟩⟩ -- POINTER
def s49 : Str := ⟨⟨[99, 111, 115, 116]⟩⟩ -- cost
def s50 : Str := ⟨⟨[116, 111, 116, 97, 108]⟩⟩ -- total
def s51 : Str := ⟨⟨[98, 97, 115, 101, 95, 111, 102]⟩⟩ -- base_of
def s52 : Str := ⟨⟨[99, 97, 112, 97, 99, 105, 116, 121]⟩⟩ -- capacity
def s53 : Str := ⟨⟨[99, 104, 105, 108, 100, 95, 111, 102]⟩⟩ -- child_of
def s54 : Str := ⟨⟨[119, 105, 116, 104, 95, 99, 104, 105, 108, 100]⟩⟩ -- with_child
def s55 : Str := ⟨⟨[102, 111, 117, 110, 100]⟩⟩ -- found
def s56 : Str := ⟨⟨[107, 105, 110, 100]⟩⟩ -- kind
def s57 : Str := ⟨⟨[110]⟩⟩ -- n
def s58 : Str := ⟨⟨[114, 101, 115, 116]⟩⟩ -- rest
def s59 : Str := ⟨⟨[116, 117, 114, 110]⟩⟩ -- turn
def s60 : Str := ⟨⟨[112, 97, 103, 101, 98, 97, 115, 101, 46, 114, 101, 99, 111, 114, 100, 115]⟩⟩ -- pagebase.records
def s61 : Str := ⟨⟨[111, 99, 116, 101, 116]⟩⟩ -- octet
def s62 : Str := ⟨⟨[114, 97, 119]⟩⟩ -- raw
def s63 : Str := ⟨⟨[112, 97, 103, 101]⟩⟩ -- page
def s64 : Str := ⟨⟨[117, 115, 97, 98, 108, 101]⟩⟩ -- usable
def s65 : Str := ⟨⟨[112, 97, 103, 101, 98, 97, 115, 101, 46, 98, 117, 108, 107]⟩⟩ -- pagebase.bulk
def s66 : Str := ⟨⟨[108, 101, 97, 102, 95, 114, 111, 119, 105, 100]⟩⟩ -- leaf_rowid
def s67 : Str := ⟨⟨[67, 111, 110, 116, 101, 110, 116]⟩⟩ -- Content
def s68 : Str := ⟨⟨[102, 105, 116, 115]⟩⟩ -- fits
def s69 : Str := ⟨⟨[119, 114, 105, 116, 101, 95, 99, 111, 110, 116, 101, 110, 116]⟩⟩ -- write_content
def s70 : Str := ⟨⟨[115, 105, 122, 101]⟩⟩ -- size
def s71 : Str := ⟨⟨[114, 111, 119, 105, 100]⟩⟩ -- rowid
def s72 : Str := ⟨⟨[99, 104, 105, 108, 100, 114, 101, 110]⟩⟩ -- children
def s73 : Str := ⟨⟨[114, 97, 119, 115]⟩⟩ -- raws
def s74 : Str := ⟨⟨[114, 105, 103, 104, 116]⟩⟩ -- right
def s75 : Str := ⟨⟨[67, 111, 110, 116, 101, 110, 116, 46, 95, 95, 105, 110, 105, 116, 95, 95]⟩⟩ -- Content.__init__
def s76 : Str := ⟨⟨[67, 111, 110, 116, 101, 110, 116, 46, 99, 104, 105, 108, 100, 114, 101, 110]⟩⟩ -- Content.children
def s77 : Str := ⟨⟨[95, 95, 100, 105, 99, 116, 95, 95]⟩⟩ -- __dict__
def s78 : Str := ⟨⟨[112, 97, 103, 101, 114]⟩⟩ -- pager
def s79 : Str := ⟨⟨[99, 111, 110, 116, 101, 110, 116]⟩⟩ -- content
def s80 : Str := ⟨⟨[98, 97, 115, 101]⟩⟩ -- base
def s81 : Str := ⟨⟨[112, 111, 105, 110, 116, 101, 114, 115]⟩⟩ -- pointers
def s82 : Str := ⟨⟨[99, 101, 108, 108, 115]⟩⟩ -- cells
def s83 : Str := ⟨⟨[112, 97, 100, 100, 101, 100]⟩⟩ -- padded
def s84 : Str := ⟨⟨[104, 101, 97, 100]⟩⟩ -- head
def s85 : Str := ⟨⟨[102, 114, 111, 110, 116]⟩⟩ -- front
def s86 : Str := ⟨⟨[112, 97, 103, 101, 98, 97, 115, 101, 46, 115, 116, 111, 114, 101]⟩⟩ -- pagebase.store
def s87 : Str := ⟨⟨[97, 112, 112, 101, 110, 100, 95, 99, 104, 97, 105, 110]⟩⟩ -- append_chain
def s88 : Str := ⟨⟨[112, 97, 99, 107, 101, 100, 95, 114, 111, 119, 115]⟩⟩ -- packed_rows
def s89 : Str := ⟨⟨[112, 97, 99, 107, 101, 100, 95, 98, 101, 116, 119, 101, 101, 110]⟩⟩ -- packed_between
def s90 : Str := ⟨⟨[110, 101, 119, 95, 112, 97, 103, 101, 115]⟩⟩ -- new_pages
def s91 : Str := ⟨⟨[115, 116, 111, 114, 101, 95, 108, 101, 97, 118, 101, 115]⟩⟩ -- store_leaves
def s92 : Str := ⟨⟨[115, 116, 111, 114, 101, 95, 105, 110, 110, 101, 114]⟩⟩ -- store_inner
def s93 : Str := ⟨⟨[114, 111, 111, 109]⟩⟩ -- room
def s94 : Str := ⟨⟨[102, 105, 114, 115, 116]⟩⟩ -- first
def s95 : Str := ⟨⟨[112, 97, 114, 116]⟩⟩ -- part
def s96 : Str := ⟨⟨[102, 111, 108, 108, 111, 119, 105, 110, 103]⟩⟩ -- following
def s97 : Str := ⟨⟨[112, 97, 103, 101, 115]⟩⟩ -- pages
def s98 : Str := ⟨⟨[117, 115, 101, 100]⟩⟩ -- used
def s99 : Str := ⟨⟨[109, 105, 100, 100, 108, 101, 115]⟩⟩ -- middles
def s100 : Str := ⟨⟨[108, 97, 115, 116]⟩⟩ -- last
def s101 : Str := ⟨⟨[80, 97, 103, 101, 83, 116, 111, 114, 101]⟩⟩ -- PageStore
def s102 : Str := ⟨⟨[112, 97, 103, 101, 95, 99, 111, 117, 110, 116]⟩⟩ -- page_count
def s103 : Str := ⟨⟨[114, 101, 97, 100, 95, 112, 97, 103, 101]⟩⟩ -- read_page
def s104 : Str := ⟨⟨[119, 114, 105, 116, 101, 95, 112, 97, 103, 101]⟩⟩ -- write_page
def s105 : Str := ⟨⟨[101, 120, 116, 101, 110, 100]⟩⟩ -- extend
def s106 : Str := ⟨⟨[116, 97, 107, 101]⟩⟩ -- take
def s107 : Str := ⟨⟨[103, 105, 118, 101]⟩⟩ -- give
def s108 : Str := ⟨⟨[112, 97, 103, 101, 95, 115, 105, 122, 101]⟩⟩ -- page_size
def s109 : Str := ⟨⟨[80, 97, 103, 101, 83, 116, 111, 114, 101, 46, 95, 95, 105, 110, 105, 116, 95, 95]⟩⟩ -- PageStore.__init__
def s110 : Str := ⟨⟨[80, 97, 103, 101, 83, 116, 111, 114, 101, 46, 112, 97, 103, 101, 95, 99, 111, 117, 110, 116]⟩⟩ -- PageStore.page_count
def s111 : Str := ⟨⟨[80, 97, 103, 101, 83, 116, 111, 114, 101, 46, 114, 101, 97, 100, 95, 112, 97, 103, 101]⟩⟩ -- PageStore.read_page
def s112 : Str := ⟨⟨[80, 97, 103, 101, 83, 116, 111, 114, 101, 46, 119, 114, 105, 116, 101, 95, 112, 97, 103, 101]⟩⟩ -- PageStore.write_page
def s113 : Str := ⟨⟨[80, 97, 103, 101, 83, 116, 111, 114, 101, 46, 101, 120, 116, 101, 110, 100]⟩⟩ -- PageStore.extend
def s114 : Str := ⟨⟨[80, 97, 103, 101, 83, 116, 111, 114, 101, 46, 116, 97, 107, 101]⟩⟩ -- PageStore.take
def s115 : Str := ⟨⟨[80, 97, 103, 101, 83, 116, 111, 114, 101, 46, 103, 105, 118, 101]⟩⟩ -- PageStore.give
def s116 : Str := ⟨⟨[115, 112, 97, 114, 101]⟩⟩ -- spare
def s117 : Str := ⟨⟨[108, 97, 119, 95, 120, 119, 48, 50, 51, 54, 95, 48, 49]⟩⟩ -- law_xw0236_01
def s118 : Str := ⟨⟨[95, 108, 97, 119, 95, 112, 111, 111, 108]⟩⟩ -- _law_pool
def s119 : Str := ⟨⟨[95, 108, 97, 119, 95, 116, 97, 107, 101]⟩⟩ -- _law_take
def s120 : Str := ⟨⟨[95, 108, 97, 119, 95, 111, 110, 101]⟩⟩ -- _law_one
def s121 : Str := ⟨⟨[95, 108, 97, 119, 95, 102, 111, 117, 114]⟩⟩ -- _law_four
def s122 : Str := ⟨⟨[95, 108, 97, 119, 95, 112, 97, 103, 101]⟩⟩ -- _law_page
def s123 : Str := ⟨⟨[95, 108, 97, 119, 95, 117, 115, 101, 100]⟩⟩ -- _law_used
def s124 : Str := ⟨⟨[95, 108, 97, 119, 95, 102, 105, 108, 108, 101, 100]⟩⟩ -- _law_filled
def s125 : Str := ⟨⟨[95, 108, 97, 119, 95, 114, 111, 111, 109]⟩⟩ -- _law_room
def s126 : Str := ⟨⟨[95, 108, 97, 119, 95, 114, 97, 119, 115]⟩⟩ -- _law_raws
def s127 : Str := ⟨⟨[95, 108, 97, 119, 95, 100, 117, 101]⟩⟩ -- _law_due
def s128 : Str := ⟨⟨[95, 108, 97, 119, 95, 115, 116, 111, 114, 101, 100, 95, 114, 105, 103, 104, 116]⟩⟩ -- _law_stored_right
def s129 : Str := ⟨⟨[115, 99, 114, 105, 112, 116]⟩⟩ -- script
def s130 : Str := ⟨⟨[99, 101, 108, 108]⟩⟩ -- cell
def s131 : Str := ⟨⟨[98, 105, 103]⟩⟩ -- big
def s132 : Str := ⟨⟨[109, 105, 120, 101, 100]⟩⟩ -- mixed
def s133 : Str := ⟨⟨[115, 111, 117, 114, 99, 101]⟩⟩ -- source
def s134 : Str := ⟨⟨[116, 111, 112]⟩⟩ -- top
def s135 : Str := ⟨⟨[100, 105, 103, 105, 116]⟩⟩ -- digit
def s136 : Str := ⟨⟨[116, 104, 105, 110, 103, 115]⟩⟩ -- things
def s137 : Str := ⟨⟨[116, 111, 108, 100]⟩⟩ -- told
def s138 : Str := ⟨⟨[104, 97, 115, 95, 109, 105, 100, 100, 108, 101, 115]⟩⟩ -- has_middles
def s139 : Str := ⟨⟨[108, 101, 102, 116]⟩⟩ -- left
def s140 : Str := ⟨⟨[109, 97, 110, 121]⟩⟩ -- many
def s141 : Str := ⟨⟨[104, 97, 108, 102]⟩⟩ -- half
def s142 : Str := ⟨⟨[108, 97, 105, 100]⟩⟩ -- laid
def s143 : Str := ⟨⟨[97, 98, 111, 118, 101]⟩⟩ -- above
def s144 : Str := ⟨⟨[98, 101, 104, 105, 110, 100]⟩⟩ -- behind
def s145 : Str := ⟨⟨[115, 116, 111, 114, 101]⟩⟩ -- store
def s146 : Str := ⟨⟨[95, 108, 97, 119, 95, 99, 104, 97, 105, 110, 95, 114, 105, 103, 104, 116]⟩⟩ -- _law_chain_right
def s147 : Str := ⟨⟨[95, 108, 97, 119, 95, 116, 111, 108, 100, 95, 114, 105, 103, 104, 116]⟩⟩ -- _law_told_right
def s148 : Str := ⟨⟨[108, 97, 119]⟩⟩ -- law
noncomputable def o0 (P : Params) : Obj := ⟨(.type "tuple"), none, (.seq ⟨[]⟩ 0), ⟨[]⟩⟩
noncomputable def o1 (P : Params) : Obj := ⟨.none, none, (.fields ⟨[]⟩), ⟨[]⟩⟩
noncomputable def o2 (P : Params) : Obj := ⟨(.type "code"), none, (.fields ⟨[(.str s0 182), (.str s0 183), (.str s1 184), (.int 1 0), (.int 0 0), (.int 0 0), (.int 0 0), (.int 0 0), (.ref 11), (.bool false), (.int 181 0), (.ref 12), .none, .none, .none, .none, (.int 185 0), (.int 1 0), (.str s1 186)]⟩), ⟨[]⟩⟩
noncomputable def o3 (P : Params) : Obj := ⟨(.type "frame"), none, .plain, ⟨[some (.ref 13), some (.ref 3), some (.ref 3), none, some (.str s2 164), none, some (.ref 0)]⟩⟩
noncomputable def o4 (P : Params) : Obj := ⟨.none, none, (.dict ⟨[eF P s3 221 (.int 38 0), eF P s4 222 (.int 1 0)]⟩ 2), ⟨[]⟩⟩
noncomputable def o5 (P : Params) : Obj := ⟨(.type "dict"), none, (.dict ⟨[eF P s5 165 (.str s6 194), eF P s7 166 .none, eF P s8 167 .none, eF P s9 168 (.builtin "__main__.__loader__#opaque"), eF P s10 169 .none, eF P s11 170 (.ref 6), eF P s12 171 (.ref 4), eF P s13 173 (.str s1 172), eF P s14 174 .none, eF P s15 193 (.ref 21), eF P s16 224 (.ref 38)]⟩ 11), ⟨[]⟩⟩
noncomputable def o6 (P : Params) : Obj := ⟨.none, none, (.fields ⟨[(.int 1 0), (.int 0 0), (.ref 20), (.int 5 0), (.int 0 0), (.ref 27)]⟩), ⟨[]⟩⟩
noncomputable def o7 (P : Params) : Obj := ⟨(.type "tuple"), none, (.seq ⟨[(.str s17 190)]⟩ 0), ⟨[]⟩⟩
noncomputable def o8 (P : Params) : Obj := ⟨.none, none, (fnD (pbF 0) s15 0 0 .none .none .none .none .none .none), ⟨[]⟩⟩
noncomputable def o9 (P : Params) : Obj := ⟨(.type "code"), none, (.fields ⟨[(.str s15 187), (.str s15 188), (.str s1 189), (.int 1 0), (.int 1 0), (.int 0 0), (.int 0 0), (.int 3 0), (.ref 15), (.bool true), (.int 181 0), (.ref 16), .none, (.ref 17), (.ref 18), (.ref 19), (.int 191 0), (.int 1 0), (.str s1 192)]⟩), ⟨[]⟩⟩
noncomputable def o10 (P : Params) : Obj := ⟨(.type "function"), none, (fnD (pbF 0) s15 3 0 (.str s2 164) .none .none .none .none (.ref 20)), ⟨[]⟩⟩
noncomputable def o11 (P : Params) : Obj := ⟨(.type "tuple"), none, (.seq ⟨[(.type "Exception")]⟩ 0), ⟨[]⟩⟩
noncomputable def o12 (P : Params) : Obj := ⟨(.type "builtin_function_or_method"), none, (.fields ⟨[(.builtin "type.__prepare__"), (.type "type")]⟩), ⟨[]⟩⟩
noncomputable def o13 (P : Params) : Obj := ⟨(.type "dict"), none, (.dict ⟨[eF P s18 203 (.str s6 194), eF P s19 205 (.str s16 204), eF P s20 207 (.int 5 206), eF P s21 215 (.ref 35), eF P s22 217 (.ref 36)]⟩ 5), ⟨[]⟩⟩
noncomputable def o14 (P : Params) : Obj := ⟨.none, none, (.fields ⟨[(.int 7 0), (.int 4 0), (.ref 34)]⟩), ⟨[]⟩⟩
noncomputable def o15 (P : Params) : Obj := ⟨(.type "code"), none, (.fields ⟨[(.str s16 198), (.str s16 199), (.str s1 200), (.int 5 0), (.int 0 0), (.int 0 0), (.int 0 0), (.int 0 0), (.ref 25), (.bool false), (.int 181 0), (.ref 26), .none, .none, .none, .none, (.int 201 0), (.int 5 0), (.str s1 202)]⟩), ⟨[]⟩⟩
noncomputable def o16 (P : Params) : Obj := ⟨(.type "frame"), none, .plain, ⟨[some (.ref 27), some (.ref 3), some (.ref 24), none, some (.str s6 194), none, some (.ref 0)]⟩⟩
noncomputable def o17 (P : Params) : Obj := ⟨(.type "tuple"), none, (.seq ⟨[(.str s23 211), (.str s24 212)]⟩ 0), ⟨[]⟩⟩
noncomputable def o18 (P : Params) : Obj := ⟨.none, none, (fnD (pmF 2 0) s25 0 0 .none .none .none .none .none .none), ⟨[]⟩⟩
noncomputable def o19 (P : Params) : Obj := ⟨(.type "code"), none, (.fields ⟨[(.str s21 208), (.str s25 209), (.str s1 210), (.int 7 0), (.int 2 0), (.int 0 0), (.int 0 0), (.int 3 0), (.ref 29), (.bool true), (.int 181 0), (.ref 30), .none, (.ref 31), (.ref 32), (.ref 33), (.int 213 0), (.int 7 0), (.str s1 214)]⟩), ⟨[]⟩⟩
noncomputable def o20 (P : Params) : Obj := ⟨(.type "function"), none, (fnD (pmF 2 0) s25 3 0 (.str s6 194) .none .none .none .none (.ref 34)), ⟨[]⟩⟩
noncomputable def o21 (P : Params) : Obj := ⟨(.type "tuple"), none, (.seq ⟨[(.str s24 216)]⟩ 0), ⟨[]⟩⟩
noncomputable def o22 (P : Params) : Obj := ⟨(.type "dict"), none, (.dict ⟨[eF P s18 203 (.str s6 194), eF P s20 207 (.int 5 206), eF P s21 215 (.ref 35), eF P s22 217 (.ref 36), eF P s26 219 (.ref 39), eF P s7 220 .none]⟩ 3), ⟨[]⟩⟩
noncomputable def o23 (P : Params) : Obj := ⟨(.type "type"), none, (.cls { name := s16, bases := [(.type "Exception")], mro := [(.ref 38), (.type "Exception"), (.type "BaseException"), (.type "object")], ns := 37, qualname := s16, hasDict := true, slotNames := [], subclasses := [], abstract := false, collection := none, hasDel := false }), ⟨[some (.ref 22), none, some (.str s16 196), some (.str s16 204), some (.builtin "Exception.__new__"), some (.bool true)]⟩⟩
noncomputable def o24 (P : Params) : Obj := ⟨(.type "getset_descriptor"), none, (.fields ⟨[(.str s26 218), (.ref 38), (.builtin "ExceptionGroup.__weakref__"), .none]⟩), ⟨[]⟩⟩
noncomputable def o25 (P : Params) : Obj := ⟨(.type "super"), none, (.fields ⟨[(.ref 38), (.ref 38), (.ref 38)]⟩), ⟨[]⟩⟩
noncomputable def o26 (P : Params) : Obj := ⟨(.type "builtin_function_or_method"), none, (.fields ⟨[(.builtin "object.__init_subclass__"), (.ref 38)]⟩), ⟨[]⟩⟩
noncomputable def o27 (P : Params) : Obj := ⟨(.type "dict"), none, (.dict ⟨[eF P s5 165 (.str s6 194), eF P s7 166 .none, eF P s8 167 .none, eF P s9 168 (.builtin "__main__.__loader__#opaque"), eF P s10 169 .none, eF P s11 170 (.ref 6), eF P s12 171 (.ref 4), eF P s13 173 (.str s1 172), eF P s14 174 .none, eF P s15 193 (.ref 21), eF P s16 224 (.ref 38), eF P s27 240 (.ref 51)]⟩ 12), ⟨[]⟩⟩
noncomputable def o28 (P : Params) : Obj := ⟨.none, none, (.fields ⟨[(.int 1 0), (.int 0 0), (.ref 20), (.int 5 0), (.int 0 0), (.ref 27), (.int 9 0), (.int 0 0), (.ref 47)]⟩), ⟨[]⟩⟩
noncomputable def o29 (P : Params) : Obj := ⟨(.type "type"), none, (.cls { name := s16, bases := [(.type "Exception")], mro := [(.ref 38), (.type "Exception"), (.type "BaseException"), (.type "object")], ns := 37, qualname := s16, hasDict := true, slotNames := [], subclasses := [(.ref 51)], abstract := false, collection := none, hasDel := false }), ⟨[some (.ref 22), none, some (.str s16 196), some (.str s16 204), some (.builtin "Exception.__new__"), some (.bool true)]⟩⟩
noncomputable def o30 (P : Params) : Obj := ⟨(.type "tuple"), none, (.seq ⟨[(.ref 38)]⟩ 0), ⟨[]⟩⟩
noncomputable def o31 (P : Params) : Obj := ⟨(.type "dict"), none, (.dict ⟨[eF P s18 232 (.str s6 194), eF P s19 234 (.str s27 233), eF P s20 236 (.int 9 235), eF P s22 237 (.ref 49)]⟩ 4), ⟨[]⟩⟩
noncomputable def o32 (P : Params) : Obj := ⟨(.type "code"), none, (.fields ⟨[(.str s27 227), (.str s27 228), (.str s1 229), (.int 9 0), (.int 0 0), (.int 0 0), (.int 0 0), (.int 0 0), (.ref 45), (.bool false), (.int 181 0), (.ref 46), .none, .none, .none, .none, (.int 230 0), (.int 9 0), (.str s1 231)]⟩), ⟨[]⟩⟩
noncomputable def o33 (P : Params) : Obj := ⟨(.type "frame"), none, .plain, ⟨[some (.ref 47), some (.ref 3), some (.ref 44), none, some (.str s6 194), none, some (.ref 0)]⟩⟩
noncomputable def o34 (P : Params) : Obj := ⟨(.type "dict"), none, (.dict ⟨[eF P s18 232 (.str s6 194), eF P s20 236 (.int 9 235), eF P s22 237 (.ref 49), eF P s7 238 .none]⟩ 2), ⟨[]⟩⟩
noncomputable def o35 (P : Params) : Obj := ⟨(.type "type"), none, (.cls { name := s27, bases := [(.ref 38)], mro := [(.ref 51), (.ref 38), (.type "Exception"), (.type "BaseException"), (.type "object")], ns := 50, qualname := s27, hasDict := true, slotNames := [], subclasses := [], abstract := false, collection := none, hasDel := false }), ⟨[some (.ref 42), none, some (.str s27 225), some (.str s27 233), some (.builtin "Exception.__new__"), some (.bool true)]⟩⟩
noncomputable def o36 (P : Params) : Obj := ⟨(.type "super"), none, (.fields ⟨[(.ref 51), (.ref 51), (.ref 51)]⟩), ⟨[]⟩⟩
noncomputable def o37 (P : Params) : Obj := ⟨(.type "builtin_function_or_method"), none, (.fields ⟨[(.builtin "object.__init_subclass__"), (.ref 51)]⟩), ⟨[]⟩⟩
noncomputable def o38 (P : Params) : Obj := ⟨(.type "dict"), none, (.dict ⟨[eF P s5 165 (.str s28 259), eF P s7 166 .none, eF P s8 167 .none, eF P s9 168 (.builtin "__main__.__loader__#opaque"), eF P s10 169 .none, eF P s11 170 (.ref 6), eF P s12 171 (.ref 4), eF P s13 173 (.str s1 172), eF P s14 174 .none, eF P s15 193 (.ref 21), eF P s16 224 (.ref 38), eF P s27 240 (.ref 51), eF P s29 256 (.ref 63), eF P s30 258 (.int 32 257), eF P s31 262 (.int 10 261), eF P s32 264 (.int 13 263), eF P s33 266 (.int 4 265), eF P s34 274 (.ref 72), eF P s35 282 (.ref 79), eF P s36 291 (.ref 86), eF P s37 300 (.ref 93)]⟩ 21), ⟨[]⟩⟩
noncomputable def o39 (P : Params) : Obj := ⟨.none, none, (.fields ⟨[(.int 1 0), (.int 0 0), (.ref 20), (.int 5 0), (.int 0 0), (.ref 27), (.int 9 0), (.int 0 0), (.ref 47), (.int 11 0), (.int 0 0), (.ref 59), (.int 18 0), (.int 0 0), (.ref 71), (.int 20 0), (.int 0 0), (.ref 78), (.int 22 0), (.int 0 0), (.ref 85), (.int 25 0), (.int 0 0), (.ref 92)]⟩), ⟨[]⟩⟩
noncomputable def o40 (P : Params) : Obj := ⟨(.type "type"), none, (.cls { name := s16, bases := [(.type "Exception")], mro := [(.ref 38), (.type "Exception"), (.type "BaseException"), (.type "object")], ns := 37, qualname := s16, hasDict := true, slotNames := [], subclasses := [(.ref 51), (.ref 63)], abstract := false, collection := none, hasDel := false }), ⟨[some (.ref 22), none, some (.str s16 196), some (.str s16 204), some (.builtin "Exception.__new__"), some (.bool true)]⟩⟩
noncomputable def o41 (P : Params) : Obj := ⟨(.type "dict"), none, (.dict ⟨[eF P s18 248 (.str s6 194), eF P s19 250 (.str s29 249), eF P s20 252 (.int 11 251), eF P s22 253 (.ref 61)]⟩ 4), ⟨[]⟩⟩
noncomputable def o42 (P : Params) : Obj := ⟨(.type "code"), none, (.fields ⟨[(.str s29 243), (.str s29 244), (.str s1 245), (.int 11 0), (.int 0 0), (.int 0 0), (.int 0 0), (.int 0 0), (.ref 57), (.bool false), (.int 181 0), (.ref 58), .none, .none, .none, .none, (.int 246 0), (.int 11 0), (.str s1 247)]⟩), ⟨[]⟩⟩
noncomputable def o43 (P : Params) : Obj := ⟨(.type "frame"), none, .plain, ⟨[some (.ref 59), some (.ref 3), some (.ref 56), none, some (.str s6 194), none, some (.ref 0)]⟩⟩
noncomputable def o44 (P : Params) : Obj := ⟨(.type "dict"), none, (.dict ⟨[eF P s18 248 (.str s6 194), eF P s20 252 (.int 11 251), eF P s22 253 (.ref 61), eF P s7 254 .none]⟩ 2), ⟨[]⟩⟩
noncomputable def o45 (P : Params) : Obj := ⟨(.type "type"), none, (.cls { name := s29, bases := [(.ref 38)], mro := [(.ref 63), (.ref 38), (.type "Exception"), (.type "BaseException"), (.type "object")], ns := 62, qualname := s29, hasDict := true, slotNames := [], subclasses := [], abstract := false, collection := none, hasDel := false }), ⟨[some (.ref 54), none, some (.str s29 241), some (.str s29 249), some (.builtin "Exception.__new__"), some (.bool true)]⟩⟩
noncomputable def o46 (P : Params) : Obj := ⟨(.type "super"), none, (.fields ⟨[(.ref 63), (.ref 63), (.ref 63)]⟩), ⟨[]⟩⟩
noncomputable def o47 (P : Params) : Obj := ⟨(.type "builtin_function_or_method"), none, (.fields ⟨[(.builtin "object.__init_subclass__"), (.ref 63)]⟩), ⟨[]⟩⟩
noncomputable def o48 (P : Params) : Obj := ⟨(.type "tuple"), none, (.seq ⟨[(.str s38 270), (.str s39 271)]⟩ 0), ⟨[]⟩⟩
noncomputable def o49 (P : Params) : Obj := ⟨.none, none, (fnD (pbF 10) s34 0 0 .none .none .none .none .none .none), ⟨[]⟩⟩
noncomputable def o50 (P : Params) : Obj := ⟨(.type "code"), none, (.fields ⟨[(.str s34 267), (.str s34 268), (.str s1 269), (.int 18 0), (.int 2 0), (.int 0 0), (.int 0 0), (.int 3 0), (.ref 66), (.bool true), (.int 181 0), (.ref 67), .none, (.ref 68), (.ref 69), (.ref 70), (.int 272 0), (.int 18 0), (.str s1 273)]⟩), ⟨[]⟩⟩
noncomputable def o51 (P : Params) : Obj := ⟨(.type "function"), none, (fnD (pbF 10) s34 3 0 (.str s28 259) .none .none .none .none (.ref 71)), ⟨[]⟩⟩
noncomputable def o52 (P : Params) : Obj := ⟨(.type "tuple"), none, (.seq ⟨[(.str s38 278), (.str s39 279)]⟩ 0), ⟨[]⟩⟩
noncomputable def o53 (P : Params) : Obj := ⟨.none, none, (fnD (pbF 11) s35 0 0 .none .none .none .none .none .none), ⟨[]⟩⟩
noncomputable def o54 (P : Params) : Obj := ⟨(.type "code"), none, (.fields ⟨[(.str s35 275), (.str s35 276), (.str s1 277), (.int 20 0), (.int 2 0), (.int 0 0), (.int 0 0), (.int 3 0), (.ref 73), (.bool true), (.int 181 0), (.ref 74), .none, (.ref 75), (.ref 76), (.ref 77), (.int 280 0), (.int 20 0), (.str s1 281)]⟩), ⟨[]⟩⟩
noncomputable def o55 (P : Params) : Obj := ⟨(.type "function"), none, (fnD (pbF 11) s35 3 0 (.str s28 259) .none .none .none .none (.ref 78)), ⟨[]⟩⟩
noncomputable def o56 (P : Params) : Obj := ⟨(.type "tuple"), none, (.seq ⟨[(.str s38 286), (.str s39 287), (.str s40 288)]⟩ 0), ⟨[]⟩⟩
noncomputable def o57 (P : Params) : Obj := ⟨.none, none, (fnD (pbF 12) s36 0 0 .none .none .none .none .none .none), ⟨[]⟩⟩
noncomputable def o58 (P : Params) : Obj := ⟨(.type "code"), none, (.fields ⟨[(.str s36 283), (.str s36 284), (.str s1 285), (.int 22 0), (.int 3 0), (.int 0 0), (.int 0 0), (.int 3 0), (.ref 80), (.bool true), (.int 181 0), (.ref 81), .none, (.ref 82), (.ref 83), (.ref 84), (.int 289 0), (.int 22 0), (.str s1 290)]⟩), ⟨[]⟩⟩
noncomputable def o59 (P : Params) : Obj := ⟨(.type "function"), none, (fnD (pbF 12) s36 3 0 (.str s28 259) .none .none .none .none (.ref 85)), ⟨[]⟩⟩
noncomputable def o60 (P : Params) : Obj := ⟨(.type "tuple"), none, (.seq ⟨[(.str s38 295), (.str s39 296), (.str s40 297)]⟩ 0), ⟨[]⟩⟩
noncomputable def o61 (P : Params) : Obj := ⟨.none, none, (fnD (pbF 13) s37 0 0 .none .none .none .none .none .none), ⟨[]⟩⟩
noncomputable def o62 (P : Params) : Obj := ⟨(.type "code"), none, (.fields ⟨[(.str s37 292), (.str s37 293), (.str s1 294), (.int 25 0), (.int 3 0), (.int 0 0), (.int 0 0), (.int 3 0), (.ref 87), (.bool true), (.int 181 0), (.ref 88), .none, (.ref 89), (.ref 90), (.ref 91), (.int 298 0), (.int 25 0), (.str s1 299)]⟩), ⟨[]⟩⟩
noncomputable def o63 (P : Params) : Obj := ⟨(.type "function"), none, (fnD (pbF 13) s37 3 0 (.str s28 259) .none .none .none .none (.ref 92)), ⟨[]⟩⟩
noncomputable def o64 (P : Params) : Obj := ⟨(.type "dict"), none, (.dict ⟨[eF P s5 165 (.str s41 350), eF P s7 166 .none, eF P s8 167 .none, eF P s9 168 (.builtin "__main__.__loader__#opaque"), eF P s10 169 .none, eF P s11 170 (.ref 6), eF P s12 171 (.ref 4), eF P s13 173 (.str s1 172), eF P s14 174 .none, eF P s15 193 (.ref 21), eF P s16 224 (.ref 38), eF P s27 240 (.ref 51), eF P s29 256 (.ref 63), eF P s30 258 (.int 32 257), eF P s31 262 (.int 10 261), eF P s32 264 (.int 13 263), eF P s33 266 (.int 4 265), eF P s34 274 (.ref 72), eF P s35 282 (.ref 79), eF P s36 291 (.ref 86), eF P s37 300 (.ref 93), eF P s42 308 (.ref 100), eF P s43 315 (.ref 107), eF P s44 322 (.ref 114), eF P s45 326 (.int 18446744073709551616 325), eF P s46 338 (.ref 121), eF P s47 349 (.ref 128), eF P s48 353 (.int 2 352), eF P s49 360 (.ref 135), eF P s50 366 (.ref 140), eF P s51 373 (.ref 147), eF P s52 382 (.ref 154), eF P s53 389 (.ref 161), eF P s54 397 (.ref 168)]⟩ 34), ⟨[]⟩⟩
noncomputable def o65 (P : Params) : Obj := ⟨.none, none, (.fields ⟨[(.int 1 0), (.int 0 0), (.ref 20), (.int 5 0), (.int 0 0), (.ref 27), (.int 9 0), (.int 0 0), (.ref 47), (.int 11 0), (.int 0 0), (.ref 59), (.int 18 0), (.int 0 0), (.ref 71), (.int 20 0), (.int 0 0), (.ref 78), (.int 22 0), (.int 0 0), (.ref 85), (.int 25 0), (.int 0 0), (.ref 92), (.int 28 0), (.int 0 0), (.ref 99), (.int 32 0), (.int 0 0), (.ref 106), (.int 34 0), (.int 0 0), (.ref 113), (.int 40 0), (.int 0 0), (.ref 120), (.int 57 0), (.int 0 0), (.ref 127), (.int 72 0), (.int 0 0), (.ref 134), (.int 74 0), (.int 0 0), (.ref 139), (.int 76 0), (.int 0 0), (.ref 146), (.int 78 0), (.int 0 0), (.ref 153), (.int 80 0), (.int 0 0), (.ref 160), (.int 82 0), (.int 0 0), (.ref 167)]⟩), ⟨[]⟩⟩
noncomputable def o66 (P : Params) : Obj := ⟨(.type "tuple"), none, (.seq ⟨[(.str s40 304), (.str s55 305)]⟩ 0), ⟨[]⟩⟩
noncomputable def o67 (P : Params) : Obj := ⟨.none, none, (fnD (pbF 14) s42 0 0 .none .none .none .none .none .none), ⟨[]⟩⟩
noncomputable def o68 (P : Params) : Obj := ⟨(.type "code"), none, (.fields ⟨[(.str s42 301), (.str s42 302), (.str s1 303), (.int 28 0), (.int 1 0), (.int 0 0), (.int 0 0), (.int 3 0), (.ref 94), (.bool true), (.int 181 0), (.ref 95), .none, (.ref 96), (.ref 97), (.ref 98), (.int 306 0), (.int 28 0), (.str s1 307)]⟩), ⟨[]⟩⟩
noncomputable def o69 (P : Params) : Obj := ⟨(.type "function"), none, (fnD (pbF 14) s42 3 0 (.str s28 259) .none .none .none .none (.ref 99)), ⟨[]⟩⟩
noncomputable def o70 (P : Params) : Obj := ⟨(.type "tuple"), none, (.seq ⟨[(.str s56 312)]⟩ 0), ⟨[]⟩⟩
noncomputable def o71 (P : Params) : Obj := ⟨.none, none, (fnD (pbF 15) s43 0 0 .none .none .none .none .none .none), ⟨[]⟩⟩
noncomputable def o72 (P : Params) : Obj := ⟨(.type "code"), none, (.fields ⟨[(.str s43 309), (.str s43 310), (.str s1 311), (.int 32 0), (.int 1 0), (.int 0 0), (.int 0 0), (.int 3 0), (.ref 101), (.bool true), (.int 181 0), (.ref 102), .none, (.ref 103), (.ref 104), (.ref 105), (.int 313 0), (.int 32 0), (.str s1 314)]⟩), ⟨[]⟩⟩
noncomputable def o73 (P : Params) : Obj := ⟨(.type "function"), none, (fnD (pbF 15) s43 3 0 (.str s28 259) .none .none .none .none (.ref 106)), ⟨[]⟩⟩
noncomputable def o74 (P : Params) : Obj := ⟨(.type "tuple"), none, (.seq ⟨[(.str s56 319)]⟩ 0), ⟨[]⟩⟩
noncomputable def o75 (P : Params) : Obj := ⟨.none, none, (fnD (pbF 16) s44 0 0 .none .none .none .none .none .none), ⟨[]⟩⟩
noncomputable def o76 (P : Params) : Obj := ⟨(.type "code"), none, (.fields ⟨[(.str s44 316), (.str s44 317), (.str s1 318), (.int 34 0), (.int 1 0), (.int 0 0), (.int 0 0), (.int 3 0), (.ref 108), (.bool true), (.int 181 0), (.ref 109), .none, (.ref 110), (.ref 111), (.ref 112), (.int 320 0), (.int 34 0), (.str s1 321)]⟩), ⟨[]⟩⟩
noncomputable def o77 (P : Params) : Obj := ⟨(.type "function"), none, (fnD (pbF 16) s44 3 0 (.str s28 259) .none .none .none .none (.ref 113)), ⟨[]⟩⟩
noncomputable def o78 (P : Params) : Obj := ⟨(.type "tuple"), none, (.seq ⟨[(.str s57 332), (.str s58 333), (.str s55 334), (.str s59 335)]⟩ 0), ⟨[]⟩⟩
noncomputable def o79 (P : Params) : Obj := ⟨.none, none, (fnD (pbF 19) s46 0 0 .none .none .none .none .none .none), ⟨[]⟩⟩
noncomputable def o80 (P : Params) : Obj := ⟨(.type "code"), none, (.fields ⟨[(.str s46 329), (.str s46 330), (.str s1 331), (.int 40 0), (.int 1 0), (.int 0 0), (.int 0 0), (.int 3 0), (.ref 115), (.bool true), (.int 181 0), (.ref 116), .none, (.ref 117), (.ref 118), (.ref 119), (.int 336 0), (.int 40 0), (.str s1 337)]⟩), ⟨[]⟩⟩
noncomputable def o81 (P : Params) : Obj := ⟨(.type "function"), none, (fnD (pbF 19) s46 3 0 (.str s60 327) .none .none .none .none (.ref 120)), ⟨[]⟩⟩
noncomputable def o82 (P : Params) : Obj := ⟨(.type "tuple"), none, (.seq ⟨[(.str s38 342), (.str s39 343), (.str s40 344), (.str s59 345), (.str s61 346)]⟩ 0), ⟨[]⟩⟩
noncomputable def o83 (P : Params) : Obj := ⟨.none, none, (fnD (pbF 20) s47 0 0 .none .none .none .none .none .none), ⟨[]⟩⟩
noncomputable def o84 (P : Params) : Obj := ⟨(.type "code"), none, (.fields ⟨[(.str s47 339), (.str s47 340), (.str s1 341), (.int 57 0), (.int 2 0), (.int 0 0), (.int 0 0), (.int 3 0), (.ref 122), (.bool true), (.int 181 0), (.ref 123), .none, (.ref 124), (.ref 125), (.ref 126), (.int 347 0), (.int 57 0), (.str s1 348)]⟩), ⟨[]⟩⟩
noncomputable def o85 (P : Params) : Obj := ⟨(.type "function"), none, (fnD (pbF 20) s47 3 0 (.str s60 327) .none .none .none .none (.ref 127)), ⟨[]⟩⟩
noncomputable def o86 (P : Params) : Obj := ⟨(.type "tuple"), none, (.seq ⟨[(.str s62 357)]⟩ 0), ⟨[]⟩⟩
noncomputable def o87 (P : Params) : Obj := ⟨.none, none, (fnD (pbF 23) s49 0 0 .none .none .none .none .none .none), ⟨[]⟩⟩
noncomputable def o88 (P : Params) : Obj := ⟨(.type "code"), none, (.fields ⟨[(.str s49 354), (.str s49 355), (.str s1 356), (.int 72 0), (.int 1 0), (.int 0 0), (.int 0 0), (.int 3 0), (.ref 129), (.bool true), (.int 181 0), (.ref 130), .none, (.ref 131), (.ref 132), (.ref 133), (.int 358 0), (.int 72 0), (.str s1 359)]⟩), ⟨[]⟩⟩
noncomputable def o89 (P : Params) : Obj := ⟨(.type "function"), none, (fnD (pbF 23) s49 3 0 (.str s41 350) .none .none .none .none (.ref 134)), ⟨[]⟩⟩
noncomputable def o90 (P : Params) : Obj := ⟨.none, none, (fnD (pbF 24) s50 0 0 .none .none .none .none .none .none), ⟨[]⟩⟩
noncomputable def o91 (P : Params) : Obj := ⟨(.type "code"), none, (.fields ⟨[(.str s50 361), (.str s50 362), (.str s1 363), (.int 74 0), (.int 1 0), (.int 0 0), (.int 0 0), (.int 3 0), (.ref 136), (.bool true), (.int 181 0), (.ref 137), .none, .none, .none, (.ref 138), (.int 364 0), (.int 74 0), (.str s1 365)]⟩), ⟨[]⟩⟩
noncomputable def o92 (P : Params) : Obj := ⟨(.type "function"), none, (fnD (pbF 24) s50 3 0 (.str s41 350) .none .none .none .none (.ref 139)), ⟨[]⟩⟩
noncomputable def o93 (P : Params) : Obj := ⟨(.type "tuple"), none, (.seq ⟨[(.str s63 370)]⟩ 0), ⟨[]⟩⟩
noncomputable def o94 (P : Params) : Obj := ⟨.none, none, (fnD (pbF 25) s51 0 0 .none .none .none .none .none .none), ⟨[]⟩⟩
noncomputable def o95 (P : Params) : Obj := ⟨(.type "code"), none, (.fields ⟨[(.str s51 367), (.str s51 368), (.str s1 369), (.int 76 0), (.int 1 0), (.int 0 0), (.int 0 0), (.int 3 0), (.ref 141), (.bool true), (.int 181 0), (.ref 142), .none, (.ref 143), (.ref 144), (.ref 145), (.int 371 0), (.int 76 0), (.str s1 372)]⟩), ⟨[]⟩⟩
noncomputable def o96 (P : Params) : Obj := ⟨(.type "function"), none, (fnD (pbF 25) s51 3 0 (.str s41 350) .none .none .none .none (.ref 146)), ⟨[]⟩⟩
noncomputable def o97 (P : Params) : Obj := ⟨(.type "tuple"), none, (.seq ⟨[(.str s63 377), (.str s56 378), (.str s64 379)]⟩ 0), ⟨[]⟩⟩
noncomputable def o98 (P : Params) : Obj := ⟨.none, none, (fnD (pbF 26) s52 0 0 .none .none .none .none .none .none), ⟨[]⟩⟩
noncomputable def o99 (P : Params) : Obj := ⟨(.type "code"), none, (.fields ⟨[(.str s52 374), (.str s52 375), (.str s1 376), (.int 78 0), (.int 3 0), (.int 0 0), (.int 0 0), (.int 3 0), (.ref 148), (.bool true), (.int 181 0), (.ref 149), .none, (.ref 150), (.ref 151), (.ref 152), (.int 380 0), (.int 78 0), (.str s1 381)]⟩), ⟨[]⟩⟩
noncomputable def o100 (P : Params) : Obj := ⟨(.type "function"), none, (fnD (pbF 26) s52 3 0 (.str s41 350) .none .none .none .none (.ref 153)), ⟨[]⟩⟩
noncomputable def o101 (P : Params) : Obj := ⟨(.type "tuple"), none, (.seq ⟨[(.str s62 386)]⟩ 0), ⟨[]⟩⟩
noncomputable def o102 (P : Params) : Obj := ⟨.none, none, (fnD (pbF 27) s53 0 0 .none .none .none .none .none .none), ⟨[]⟩⟩
noncomputable def o103 (P : Params) : Obj := ⟨(.type "code"), none, (.fields ⟨[(.str s53 383), (.str s53 384), (.str s1 385), (.int 80 0), (.int 1 0), (.int 0 0), (.int 0 0), (.int 3 0), (.ref 155), (.bool true), (.int 181 0), (.ref 156), .none, (.ref 157), (.ref 158), (.ref 159), (.int 387 0), (.int 80 0), (.str s1 388)]⟩), ⟨[]⟩⟩
noncomputable def o104 (P : Params) : Obj := ⟨(.type "function"), none, (fnD (pbF 27) s53 3 0 (.str s41 350) .none .none .none .none (.ref 160)), ⟨[]⟩⟩
noncomputable def o105 (P : Params) : Obj := ⟨(.type "tuple"), none, (.seq ⟨[(.str s62 393), (.str s63 394)]⟩ 0), ⟨[]⟩⟩
noncomputable def o106 (P : Params) : Obj := ⟨.none, none, (fnD (pbF 28) s54 0 0 .none .none .none .none .none .none), ⟨[]⟩⟩
noncomputable def o107 (P : Params) : Obj := ⟨(.type "code"), none, (.fields ⟨[(.str s54 390), (.str s54 391), (.str s1 392), (.int 82 0), (.int 2 0), (.int 0 0), (.int 0 0), (.int 3 0), (.ref 162), (.bool true), (.int 181 0), (.ref 163), .none, (.ref 164), (.ref 165), (.ref 166), (.int 395 0), (.int 82 0), (.str s1 396)]⟩), ⟨[]⟩⟩
noncomputable def o108 (P : Params) : Obj := ⟨(.type "function"), none, (fnD (pbF 28) s54 3 0 (.str s41 350) .none .none .none .none (.ref 167)), ⟨[]⟩⟩
noncomputable def o109 (P : Params) : Obj := ⟨(.type "dict"), none, (.dict ⟨[eF P s5 165 (.str s65 475), eF P s7 166 .none, eF P s8 167 .none, eF P s9 168 (.builtin "__main__.__loader__#opaque"), eF P s10 169 .none, eF P s11 170 (.ref 6), eF P s12 171 (.ref 4), eF P s13 173 (.str s1 172), eF P s14 174 .none, eF P s15 193 (.ref 21), eF P s16 224 (.ref 38), eF P s27 240 (.ref 51), eF P s29 256 (.ref 63), eF P s30 258 (.int 32 257), eF P s31 262 (.int 10 261), eF P s32 264 (.int 13 263), eF P s33 266 (.int 4 265), eF P s34 274 (.ref 72), eF P s35 282 (.ref 79), eF P s36 291 (.ref 86), eF P s37 300 (.ref 93), eF P s42 308 (.ref 100), eF P s43 315 (.ref 107), eF P s44 322 (.ref 114), eF P s45 326 (.int 18446744073709551616 325), eF P s46 338 (.ref 121), eF P s47 349 (.ref 128), eF P s48 353 (.int 2 352), eF P s49 360 (.ref 135), eF P s50 366 (.ref 140), eF P s51 373 (.ref 147), eF P s52 382 (.ref 154), eF P s53 389 (.ref 161), eF P s54 397 (.ref 168), eF P s66 407 (.ref 175), eF P s67 447 (.ref 199), eF P s68 456 (.ref 210), eF P s69 474 (.ref 217)]⟩ 38), ⟨[]⟩⟩
noncomputable def o110 (P : Params) : Obj := ⟨.none, none, (.fields ⟨[(.int 1 0), (.int 0 0), (.ref 20), (.int 5 0), (.int 0 0), (.ref 27), (.int 9 0), (.int 0 0), (.ref 47), (.int 11 0), (.int 0 0), (.ref 59), (.int 18 0), (.int 0 0), (.ref 71), (.int 20 0), (.int 0 0), (.ref 78), (.int 22 0), (.int 0 0), (.ref 85), (.int 25 0), (.int 0 0), (.ref 92), (.int 28 0), (.int 0 0), (.ref 99), (.int 32 0), (.int 0 0), (.ref 106), (.int 34 0), (.int 0 0), (.ref 113), (.int 40 0), (.int 0 0), (.ref 120), (.int 57 0), (.int 0 0), (.ref 127), (.int 72 0), (.int 0 0), (.ref 134), (.int 74 0), (.int 0 0), (.ref 139), (.int 76 0), (.int 0 0), (.ref 146), (.int 78 0), (.int 0 0), (.ref 153), (.int 80 0), (.int 0 0), (.ref 160), (.int 82 0), (.int 0 0), (.ref 167), (.int 84 0), (.int 0 0), (.ref 174), (.int 88 0), (.int 0 0), (.ref 181), (.int 97 0), (.int 0 0), (.ref 209), (.int 99 0), (.int 0 0), (.ref 216)]⟩), ⟨[]⟩⟩
noncomputable def o111 (P : Params) : Obj := ⟨(.type "tuple"), none, (.seq ⟨[(.str s62 401), (.str s70 402), (.str s39 403), (.str s71 404)]⟩ 0), ⟨[]⟩⟩
noncomputable def o112 (P : Params) : Obj := ⟨.none, none, (fnD (pbF 29) s66 0 0 .none .none .none .none .none .none), ⟨[]⟩⟩
noncomputable def o113 (P : Params) : Obj := ⟨(.type "code"), none, (.fields ⟨[(.str s66 398), (.str s66 399), (.str s1 400), (.int 84 0), (.int 1 0), (.int 0 0), (.int 0 0), (.int 3 0), (.ref 169), (.bool true), (.int 181 0), (.ref 170), .none, (.ref 171), (.ref 172), (.ref 173), (.int 405 0), (.int 84 0), (.str s1 406)]⟩), ⟨[]⟩⟩
noncomputable def o114 (P : Params) : Obj := ⟨(.type "function"), none, (fnD (pbF 29) s66 3 0 (.str s41 350) .none .none .none .none (.ref 174)), ⟨[]⟩⟩
noncomputable def o115 (P : Params) : Obj := ⟨(.type "dict"), none, (.dict ⟨[eF P s18 415 (.str s41 350), eF P s19 417 (.str s67 416), eF P s20 419 (.int 88 418), eF P s21 429 (.ref 189), eF P s72 436 (.ref 196), eF P s22 440 (.ref 197)]⟩ 6), ⟨[]⟩⟩
noncomputable def o116 (P : Params) : Obj := ⟨.none, none, (.fields ⟨[(.int 90 0), (.int 4 0), (.ref 188), (.int 95 0), (.int 4 0), (.ref 195)]⟩), ⟨[]⟩⟩
noncomputable def o117 (P : Params) : Obj := ⟨(.type "code"), none, (.fields ⟨[(.str s67 410), (.str s67 411), (.str s1 412), (.int 88 0), (.int 0 0), (.int 0 0), (.int 0 0), (.int 0 0), (.ref 179), (.bool false), (.int 181 0), (.ref 180), .none, .none, .none, .none, (.int 413 0), (.int 88 0), (.str s1 414)]⟩), ⟨[]⟩⟩
noncomputable def o118 (P : Params) : Obj := ⟨(.type "frame"), none, .plain, ⟨[some (.ref 181), some (.ref 3), some (.ref 178), none, some (.str s41 350), none, some (.ref 0)]⟩⟩
noncomputable def o119 (P : Params) : Obj := ⟨(.type "tuple"), none, (.seq ⟨[(.str s23 423), (.str s56 424), (.str s73 425), (.str s74 426)]⟩ 0), ⟨[]⟩⟩
noncomputable def o120 (P : Params) : Obj := ⟨.none, none, (fnD (pmF 30 0) s75 0 0 .none .none .none .none .none .none), ⟨[]⟩⟩
noncomputable def o121 (P : Params) : Obj := ⟨(.type "code"), none, (.fields ⟨[(.str s21 420), (.str s75 421), (.str s1 422), (.int 90 0), (.int 4 0), (.int 0 0), (.int 0 0), (.int 3 0), (.ref 183), (.bool true), (.int 181 0), (.ref 184), .none, (.ref 185), (.ref 186), (.ref 187), (.int 427 0), (.int 90 0), (.str s1 428)]⟩), ⟨[]⟩⟩
noncomputable def o122 (P : Params) : Obj := ⟨(.type "function"), none, (fnD (pmF 30 0) s75 3 0 (.str s41 350) .none .none .none .none (.ref 188)), ⟨[]⟩⟩
noncomputable def o123 (P : Params) : Obj := ⟨(.type "tuple"), none, (.seq ⟨[(.str s23 433)]⟩ 0), ⟨[]⟩⟩
noncomputable def o124 (P : Params) : Obj := ⟨.none, none, (fnD (pmF 30 1) s76 0 0 .none .none .none .none .none .none), ⟨[]⟩⟩
noncomputable def o125 (P : Params) : Obj := ⟨(.type "code"), none, (.fields ⟨[(.str s72 430), (.str s76 431), (.str s1 432), (.int 95 0), (.int 1 0), (.int 0 0), (.int 0 0), (.int 3 0), (.ref 190), (.bool true), (.int 181 0), (.ref 191), .none, (.ref 192), (.ref 193), (.ref 194), (.int 434 0), (.int 95 0), (.str s1 435)]⟩), ⟨[]⟩⟩
noncomputable def o126 (P : Params) : Obj := ⟨(.type "function"), none, (fnD (pmF 30 1) s76 3 0 (.str s41 350) .none .none .none .none (.ref 195)), ⟨[]⟩⟩
noncomputable def o127 (P : Params) : Obj := ⟨(.type "tuple"), none, (.seq ⟨[(.str s56 437), (.str s73 438), (.str s74 439)]⟩ 0), ⟨[]⟩⟩
noncomputable def o128 (P : Params) : Obj := ⟨(.type "dict"), none, (.dict ⟨[eF P s18 415 (.str s41 350), eF P s20 419 (.int 88 418), eF P s21 429 (.ref 189), eF P s72 436 (.ref 196), eF P s22 440 (.ref 197), eF P s77 442 (.ref 200), eF P s26 444 (.ref 201), eF P s7 445 .none]⟩ 4), ⟨[]⟩⟩
noncomputable def o129 (P : Params) : Obj := ⟨(.type "type"), none, (.cls { name := s67, bases := [(.type "object")], mro := [(.ref 199), (.type "object")], ns := 198, qualname := s67, hasDict := true, slotNames := [], subclasses := [], abstract := false, collection := none, hasDel := false }), ⟨[none, none, some (.str s67 408), some (.str s67 416), some (.builtin "object.__new__"), some (.bool true)]⟩⟩
noncomputable def o130 (P : Params) : Obj := ⟨(.type "getset_descriptor"), none, (.fields ⟨[(.str s77 441), (.ref 199), (.builtin "function.__dict__"), (.builtin "function.__dict__#set")]⟩), ⟨[]⟩⟩
noncomputable def o131 (P : Params) : Obj := ⟨(.type "getset_descriptor"), none, (.fields ⟨[(.str s26 443), (.ref 199), (.builtin "ExceptionGroup.__weakref__"), .none]⟩), ⟨[]⟩⟩
noncomputable def o132 (P : Params) : Obj := ⟨(.type "super"), none, (.fields ⟨[(.ref 199), (.ref 199), (.ref 199)]⟩), ⟨[]⟩⟩
noncomputable def o133 (P : Params) : Obj := ⟨(.type "builtin_function_or_method"), none, (.fields ⟨[(.builtin "object.__init_subclass__"), (.ref 199)]⟩), ⟨[]⟩⟩
noncomputable def o134 (P : Params) : Obj := ⟨(.type "tuple"), none, (.seq ⟨[(.str s78 451), (.str s63 452), (.str s79 453)]⟩ 0), ⟨[]⟩⟩
noncomputable def o135 (P : Params) : Obj := ⟨.none, none, (fnD (pbF 31) s68 0 0 .none .none .none .none .none .none), ⟨[]⟩⟩
noncomputable def o136 (P : Params) : Obj := ⟨(.type "code"), none, (.fields ⟨[(.str s68 448), (.str s68 449), (.str s1 450), (.int 97 0), (.int 3 0), (.int 0 0), (.int 0 0), (.int 3 0), (.ref 204), (.bool true), (.int 181 0), (.ref 205), .none, (.ref 206), (.ref 207), (.ref 208), (.int 454 0), (.int 97 0), (.str s1 455)]⟩), ⟨[]⟩⟩
noncomputable def o137 (P : Params) : Obj := ⟨(.type "function"), none, (fnD (pbF 31) s68 3 0 (.str s41 350) .none .none .none .none (.ref 209)), ⟨[]⟩⟩
noncomputable def o138 (P : Params) : Obj := ⟨(.type "tuple"), none, (.seq ⟨[(.str s78 460), (.str s63 461), (.str s79 462), (.str s70 463), (.str s80 464), (.str s81 465), (.str s82 466), (.str s39 467), (.str s62 468), (.str s83 469), (.str s84 470), (.str s85 471)]⟩ 0), ⟨[]⟩⟩
noncomputable def o139 (P : Params) : Obj := ⟨.none, none, (fnD (pbF 32) s69 0 0 .none .none .none .none .none .none), ⟨[]⟩⟩
noncomputable def o140 (P : Params) : Obj := ⟨(.type "code"), none, (.fields ⟨[(.str s69 457), (.str s69 458), (.str s1 459), (.int 99 0), (.int 3 0), (.int 0 0), (.int 0 0), (.int 3 0), (.ref 211), (.bool true), (.int 181 0), (.ref 212), .none, (.ref 213), (.ref 214), (.ref 215), (.int 472 0), (.int 99 0), (.str s1 473)]⟩), ⟨[]⟩⟩
noncomputable def o141 (P : Params) : Obj := ⟨(.type "function"), none, (fnD (pbF 32) s69 3 0 (.str s41 350) .none .none .none .none (.ref 216)), ⟨[]⟩⟩
noncomputable def o142 (P : Params) : Obj := ⟨(.type "dict"), none, (.dict ⟨[eF P s5 165 (.str s86 533), eF P s7 166 .none, eF P s8 167 .none, eF P s9 168 (.builtin "__main__.__loader__#opaque"), eF P s10 169 .none, eF P s11 170 (.ref 6), eF P s12 171 (.ref 4), eF P s13 173 (.str s1 172), eF P s14 174 .none, eF P s15 193 (.ref 21), eF P s16 224 (.ref 38), eF P s27 240 (.ref 51), eF P s29 256 (.ref 63), eF P s30 258 (.int 32 257), eF P s31 262 (.int 10 261), eF P s32 264 (.int 13 263), eF P s33 266 (.int 4 265), eF P s34 274 (.ref 72), eF P s35 282 (.ref 79), eF P s36 291 (.ref 86), eF P s37 300 (.ref 93), eF P s42 308 (.ref 100), eF P s43 315 (.ref 107), eF P s44 322 (.ref 114), eF P s45 326 (.int 18446744073709551616 325), eF P s46 338 (.ref 121), eF P s47 349 (.ref 128), eF P s48 353 (.int 2 352), eF P s49 360 (.ref 135), eF P s50 366 (.ref 140), eF P s51 373 (.ref 147), eF P s52 382 (.ref 154), eF P s53 389 (.ref 161), eF P s54 397 (.ref 168), eF P s66 407 (.ref 175), eF P s67 447 (.ref 199), eF P s68 456 (.ref 210), eF P s69 474 (.ref 217), eF P s87 490 (.ref 224), eF P s88 501 (.ref 231), eF P s89 514 (.ref 238), eF P s90 520 (.ref 243), eF P s91 526 (.ref 248), eF P s92 532 (.ref 253)]⟩ 44), ⟨[]⟩⟩
noncomputable def o143 (P : Params) : Obj := ⟨.none, none, (.fields ⟨[(.int 1 0), (.int 0 0), (.ref 20), (.int 5 0), (.int 0 0), (.ref 27), (.int 9 0), (.int 0 0), (.ref 47), (.int 11 0), (.int 0 0), (.ref 59), (.int 18 0), (.int 0 0), (.ref 71), (.int 20 0), (.int 0 0), (.ref 78), (.int 22 0), (.int 0 0), (.ref 85), (.int 25 0), (.int 0 0), (.ref 92), (.int 28 0), (.int 0 0), (.ref 99), (.int 32 0), (.int 0 0), (.ref 106), (.int 34 0), (.int 0 0), (.ref 113), (.int 40 0), (.int 0 0), (.ref 120), (.int 57 0), (.int 0 0), (.ref 127), (.int 72 0), (.int 0 0), (.ref 134), (.int 74 0), (.int 0 0), (.ref 139), (.int 76 0), (.int 0 0), (.ref 146), (.int 78 0), (.int 0 0), (.ref 153), (.int 80 0), (.int 0 0), (.ref 160), (.int 82 0), (.int 0 0), (.ref 167), (.int 84 0), (.int 0 0), (.ref 174), (.int 88 0), (.int 0 0), (.ref 181), (.int 97 0), (.int 0 0), (.ref 209), (.int 99 0), (.int 0 0), (.ref 216), (.int 116 0), (.int 0 0), (.ref 223), (.int 128 0), (.int 0 0), (.ref 230), (.int 138 0), (.int 0 0), (.ref 237), (.int 155 0), (.int 0 0), (.ref 242), (.int 157 0), (.int 0 0), (.ref 247), (.int 170 0), (.int 0 0), (.ref 252)]⟩), ⟨[]⟩⟩
noncomputable def o144 (P : Params) : Obj := ⟨(.type "tuple"), none, (.seq ⟨[(.str s78 480), (.str s38 481), (.str s93 482), (.str s94 483), (.str s63 484), (.str s39 485), (.str s95 486), (.str s96 487)]⟩ 0), ⟨[]⟩⟩
noncomputable def o145 (P : Params) : Obj := ⟨.none, none, (fnD (pbF 34) s87 0 0 .none .none .none .none .none .none), ⟨[]⟩⟩
noncomputable def o146 (P : Params) : Obj := ⟨(.type "code"), none, (.fields ⟨[(.str s87 477), (.str s87 478), (.str s1 479), (.int 116 0), (.int 2 0), (.int 0 0), (.int 0 0), (.int 3 0), (.ref 218), (.bool true), (.int 181 0), (.ref 219), .none, (.ref 220), (.ref 221), (.ref 222), (.int 488 0), (.int 116 0), (.str s1 489)]⟩), ⟨[]⟩⟩
noncomputable def o147 (P : Params) : Obj := ⟨(.type "function"), none, (fnD (pbF 34) s87 3 0 (.str s65 475) .none .none .none .none (.ref 223)), ⟨[]⟩⟩
noncomputable def o148 (P : Params) : Obj := ⟨(.type "tuple"), none, (.seq ⟨[(.str s73 494), (.str s93 495), (.str s97 496), (.str s98 497), (.str s62 498)]⟩ 0), ⟨[]⟩⟩
noncomputable def o149 (P : Params) : Obj := ⟨.none, none, (fnD (pbF 35) s88 0 0 .none .none .none .none .none .none), ⟨[]⟩⟩
noncomputable def o150 (P : Params) : Obj := ⟨(.type "code"), none, (.fields ⟨[(.str s88 491), (.str s88 492), (.str s1 493), (.int 128 0), (.int 2 0), (.int 0 0), (.int 0 0), (.int 3 0), (.ref 225), (.bool true), (.int 181 0), (.ref 226), .none, (.ref 227), (.ref 228), (.ref 229), (.int 499 0), (.int 128 0), (.str s1 500)]⟩), ⟨[]⟩⟩
noncomputable def o151 (P : Params) : Obj := ⟨(.type "function"), none, (fnD (pbF 35) s88 3 0 (.str s65 475) .none .none .none .none (.ref 230)), ⟨[]⟩⟩
noncomputable def o152 (P : Params) : Obj := ⟨(.type "tuple"), none, (.seq ⟨[(.str s73 505), (.str s93 506), (.str s97 507), (.str s99 508), (.str s98 509), (.str s62 510), (.str s100 511)]⟩ 0), ⟨[]⟩⟩
noncomputable def o153 (P : Params) : Obj := ⟨.none, none, (fnD (pbF 36) s89 0 0 .none .none .none .none .none .none), ⟨[]⟩⟩
noncomputable def o154 (P : Params) : Obj := ⟨(.type "code"), none, (.fields ⟨[(.str s89 502), (.str s89 503), (.str s1 504), (.int 138 0), (.int 2 0), (.int 0 0), (.int 0 0), (.int 3 0), (.ref 232), (.bool true), (.int 181 0), (.ref 233), .none, (.ref 234), (.ref 235), (.ref 236), (.int 512 0), (.int 138 0), (.str s1 513)]⟩), ⟨[]⟩⟩
noncomputable def o155 (P : Params) : Obj := ⟨(.type "function"), none, (fnD (pbF 36) s89 3 0 (.str s65 475) .none .none .none .none (.ref 237)), ⟨[]⟩⟩
noncomputable def o156 (P : Params) : Obj := ⟨.none, none, (fnD (pbF 37) s90 0 0 .none .none .none .none .none .none), ⟨[]⟩⟩
noncomputable def o157 (P : Params) : Obj := ⟨(.type "code"), none, (.fields ⟨[(.str s90 515), (.str s90 516), (.str s1 517), (.int 155 0), (.int 2 0), (.int 0 0), (.int 0 0), (.int 3 0), (.ref 239), (.bool true), (.int 181 0), (.ref 240), .none, .none, .none, (.ref 241), (.int 518 0), (.int 155 0), (.str s1 519)]⟩), ⟨[]⟩⟩
noncomputable def o158 (P : Params) : Obj := ⟨(.type "function"), none, (fnD (pbF 37) s90 3 0 (.str s65 475) .none .none .none .none (.ref 242)), ⟨[]⟩⟩
noncomputable def o159 (P : Params) : Obj := ⟨.none, none, (fnD (pbF 38) s91 0 0 .none .none .none .none .none .none), ⟨[]⟩⟩
noncomputable def o160 (P : Params) : Obj := ⟨(.type "code"), none, (.fields ⟨[(.str s91 521), (.str s91 522), (.str s1 523), (.int 157 0), (.int 3 0), (.int 0 0), (.int 0 0), (.int 3 0), (.ref 244), (.bool true), (.int 181 0), (.ref 245), .none, .none, .none, (.ref 246), (.int 524 0), (.int 157 0), (.str s1 525)]⟩), ⟨[]⟩⟩
noncomputable def o161 (P : Params) : Obj := ⟨(.type "function"), none, (fnD (pbF 38) s91 3 0 (.str s65 475) .none .none .none .none (.ref 247)), ⟨[]⟩⟩
noncomputable def o162 (P : Params) : Obj := ⟨.none, none, (fnD (pbF 39) s92 0 0 .none .none .none .none .none .none), ⟨[]⟩⟩
noncomputable def o163 (P : Params) : Obj := ⟨(.type "code"), none, (.fields ⟨[(.str s92 527), (.str s92 528), (.str s1 529), (.int 170 0), (.int 4 0), (.int 0 0), (.int 0 0), (.int 3 0), (.ref 249), (.bool true), (.int 181 0), (.ref 250), .none, .none, .none, (.ref 251), (.int 530 0), (.int 170 0), (.str s1 531)]⟩), ⟨[]⟩⟩
noncomputable def o164 (P : Params) : Obj := ⟨(.type "function"), none, (fnD (pbF 39) s92 3 0 (.str s65 475) .none .none .none .none (.ref 252)), ⟨[]⟩⟩
noncomputable def o165 (P : Params) : Obj := ⟨(.type "dict"), none, (.dict ⟨[eF P s5 165 (.str s86 533), eF P s7 166 .none, eF P s8 167 .none, eF P s9 168 (.builtin "__main__.__loader__#opaque"), eF P s10 169 .none, eF P s11 170 (.ref 6), eF P s12 171 (.ref 4), eF P s13 173 (.str s1 172), eF P s14 174 .none, eF P s15 193 (.ref 21), eF P s16 224 (.ref 38), eF P s27 240 (.ref 51), eF P s29 256 (.ref 63), eF P s30 258 (.int 32 257), eF P s31 262 (.int 10 261), eF P s32 264 (.int 13 263), eF P s33 266 (.int 4 265), eF P s34 274 (.ref 72), eF P s35 282 (.ref 79), eF P s36 291 (.ref 86), eF P s37 300 (.ref 93), eF P s42 308 (.ref 100), eF P s43 315 (.ref 107), eF P s44 322 (.ref 114), eF P s45 326 (.int 18446744073709551616 325), eF P s46 338 (.ref 121), eF P s47 349 (.ref 128), eF P s48 353 (.int 2 352), eF P s49 360 (.ref 135), eF P s50 366 (.ref 140), eF P s51 373 (.ref 147), eF P s52 382 (.ref 154), eF P s53 389 (.ref 161), eF P s54 397 (.ref 168), eF P s66 407 (.ref 175), eF P s67 447 (.ref 199), eF P s68 456 (.ref 210), eF P s69 474 (.ref 217), eF P s87 490 (.ref 224), eF P s88 501 (.ref 231), eF P s89 514 (.ref 238), eF P s90 520 (.ref 243), eF P s91 526 (.ref 248), eF P s92 532 (.ref 253), eF P s101 611 (.ref 312)]⟩ 45), ⟨[]⟩⟩
noncomputable def o166 (P : Params) : Obj := ⟨.none, none, (.fields ⟨[(.int 1 0), (.int 0 0), (.ref 20), (.int 5 0), (.int 0 0), (.ref 27), (.int 9 0), (.int 0 0), (.ref 47), (.int 11 0), (.int 0 0), (.ref 59), (.int 18 0), (.int 0 0), (.ref 71), (.int 20 0), (.int 0 0), (.ref 78), (.int 22 0), (.int 0 0), (.ref 85), (.int 25 0), (.int 0 0), (.ref 92), (.int 28 0), (.int 0 0), (.ref 99), (.int 32 0), (.int 0 0), (.ref 106), (.int 34 0), (.int 0 0), (.ref 113), (.int 40 0), (.int 0 0), (.ref 120), (.int 57 0), (.int 0 0), (.ref 127), (.int 72 0), (.int 0 0), (.ref 134), (.int 74 0), (.int 0 0), (.ref 139), (.int 76 0), (.int 0 0), (.ref 146), (.int 78 0), (.int 0 0), (.ref 153), (.int 80 0), (.int 0 0), (.ref 160), (.int 82 0), (.int 0 0), (.ref 167), (.int 84 0), (.int 0 0), (.ref 174), (.int 88 0), (.int 0 0), (.ref 181), (.int 97 0), (.int 0 0), (.ref 209), (.int 99 0), (.int 0 0), (.ref 216), (.int 116 0), (.int 0 0), (.ref 223), (.int 128 0), (.int 0 0), (.ref 230), (.int 138 0), (.int 0 0), (.ref 237), (.int 155 0), (.int 0 0), (.ref 242), (.int 157 0), (.int 0 0), (.ref 247), (.int 170 0), (.int 0 0), (.ref 252), (.int 180 0), (.int 0 0), (.ref 259)]⟩), ⟨[]⟩⟩
noncomputable def o167 (P : Params) : Obj := ⟨(.type "dict"), none, (.dict ⟨[eF P s18 542 (.str s86 533), eF P s19 544 (.str s101 543), eF P s20 546 (.int 180 545), eF P s21 554 (.ref 267), eF P s102 561 (.ref 274), eF P s103 569 (.ref 281), eF P s104 578 (.ref 288), eF P s105 585 (.ref 295), eF P s106 592 (.ref 302), eF P s107 600 (.ref 309), eF P s22 604 (.ref 310)]⟩ 11), ⟨[]⟩⟩
noncomputable def o168 (P : Params) : Obj := ⟨.none, none, (.fields ⟨[(.int 182 0), (.int 4 0), (.ref 266), (.int 187 0), (.int 4 0), (.ref 273), (.int 190 0), (.int 4 0), (.ref 280), (.int 195 0), (.int 4 0), (.ref 287), (.int 200 0), (.int 4 0), (.ref 294), (.int 204 0), (.int 4 0), (.ref 301), (.int 209 0), (.int 4 0), (.ref 308)]⟩), ⟨[]⟩⟩
noncomputable def o169 (P : Params) : Obj := ⟨(.type "code"), none, (.fields ⟨[(.str s101 537), (.str s101 538), (.str s1 539), (.int 180 0), (.int 0 0), (.int 0 0), (.int 0 0), (.int 0 0), (.ref 257), (.bool false), (.int 181 0), (.ref 258), .none, .none, .none, .none, (.int 540 0), (.int 180 0), (.str s1 541)]⟩), ⟨[]⟩⟩
noncomputable def o170 (P : Params) : Obj := ⟨(.type "frame"), none, .plain, ⟨[some (.ref 259), some (.ref 3), some (.ref 256), none, some (.str s86 533), none, some (.ref 0)]⟩⟩
noncomputable def o171 (P : Params) : Obj := ⟨(.type "tuple"), none, (.seq ⟨[(.str s23 550), (.str s108 551)]⟩ 0), ⟨[]⟩⟩
noncomputable def o172 (P : Params) : Obj := ⟨.none, none, (fnD (pmF 41 0) s109 0 0 .none .none .none .none .none .none), ⟨[]⟩⟩
noncomputable def o173 (P : Params) : Obj := ⟨(.type "code"), none, (.fields ⟨[(.str s21 547), (.str s109 548), (.str s1 549), (.int 182 0), (.int 2 0), (.int 0 0), (.int 0 0), (.int 3 0), (.ref 261), (.bool true), (.int 181 0), (.ref 262), .none, (.ref 263), (.ref 264), (.ref 265), (.int 552 0), (.int 182 0), (.str s1 553)]⟩), ⟨[]⟩⟩
noncomputable def o174 (P : Params) : Obj := ⟨(.type "function"), none, (fnD (pmF 41 0) s109 3 0 (.str s86 533) .none .none .none .none (.ref 266)), ⟨[]⟩⟩
noncomputable def o175 (P : Params) : Obj := ⟨(.type "tuple"), none, (.seq ⟨[(.str s23 558)]⟩ 0), ⟨[]⟩⟩
noncomputable def o176 (P : Params) : Obj := ⟨.none, none, (fnD (pmF 41 1) s110 0 0 .none .none .none .none .none .none), ⟨[]⟩⟩
noncomputable def o177 (P : Params) : Obj := ⟨(.type "code"), none, (.fields ⟨[(.str s102 555), (.str s110 556), (.str s1 557), (.int 187 0), (.int 1 0), (.int 0 0), (.int 0 0), (.int 3 0), (.ref 268), (.bool true), (.int 181 0), (.ref 269), .none, (.ref 270), (.ref 271), (.ref 272), (.int 559 0), (.int 187 0), (.str s1 560)]⟩), ⟨[]⟩⟩
noncomputable def o178 (P : Params) : Obj := ⟨(.type "function"), none, (fnD (pmF 41 1) s110 3 0 (.str s86 533) .none .none .none .none (.ref 273)), ⟨[]⟩⟩
noncomputable def o179 (P : Params) : Obj := ⟨(.type "tuple"), none, (.seq ⟨[(.str s23 565), (.str s63 566)]⟩ 0), ⟨[]⟩⟩
noncomputable def o180 (P : Params) : Obj := ⟨.none, none, (fnD (pmF 41 2) s111 0 0 .none .none .none .none .none .none), ⟨[]⟩⟩
noncomputable def o181 (P : Params) : Obj := ⟨(.type "code"), none, (.fields ⟨[(.str s103 562), (.str s111 563), (.str s1 564), (.int 190 0), (.int 2 0), (.int 0 0), (.int 0 0), (.int 3 0), (.ref 275), (.bool true), (.int 181 0), (.ref 276), .none, (.ref 277), (.ref 278), (.ref 279), (.int 567 0), (.int 190 0), (.str s1 568)]⟩), ⟨[]⟩⟩
noncomputable def o182 (P : Params) : Obj := ⟨(.type "function"), none, (fnD (pmF 41 2) s111 3 0 (.str s86 533) .none .none .none .none (.ref 280)), ⟨[]⟩⟩
noncomputable def o183 (P : Params) : Obj := ⟨(.type "tuple"), none, (.seq ⟨[(.str s23 573), (.str s63 574), (.str s38 575)]⟩ 0), ⟨[]⟩⟩
noncomputable def o184 (P : Params) : Obj := ⟨.none, none, (fnD (pmF 41 3) s112 0 0 .none .none .none .none .none .none), ⟨[]⟩⟩
noncomputable def o185 (P : Params) : Obj := ⟨(.type "code"), none, (.fields ⟨[(.str s104 570), (.str s112 571), (.str s1 572), (.int 195 0), (.int 3 0), (.int 0 0), (.int 0 0), (.int 3 0), (.ref 282), (.bool true), (.int 181 0), (.ref 283), .none, (.ref 284), (.ref 285), (.ref 286), (.int 576 0), (.int 195 0), (.str s1 577)]⟩), ⟨[]⟩⟩
noncomputable def o186 (P : Params) : Obj := ⟨(.type "function"), none, (fnD (pmF 41 3) s112 3 0 (.str s86 533) .none .none .none .none (.ref 287)), ⟨[]⟩⟩
noncomputable def o187 (P : Params) : Obj := ⟨(.type "tuple"), none, (.seq ⟨[(.str s23 582)]⟩ 0), ⟨[]⟩⟩
noncomputable def o188 (P : Params) : Obj := ⟨.none, none, (fnD (pmF 41 4) s113 0 0 .none .none .none .none .none .none), ⟨[]⟩⟩
noncomputable def o189 (P : Params) : Obj := ⟨(.type "code"), none, (.fields ⟨[(.str s105 579), (.str s113 580), (.str s1 581), (.int 200 0), (.int 1 0), (.int 0 0), (.int 0 0), (.int 3 0), (.ref 289), (.bool true), (.int 181 0), (.ref 290), .none, (.ref 291), (.ref 292), (.ref 293), (.int 583 0), (.int 200 0), (.str s1 584)]⟩), ⟨[]⟩⟩
noncomputable def o190 (P : Params) : Obj := ⟨(.type "function"), none, (fnD (pmF 41 4) s113 3 0 (.str s86 533) .none .none .none .none (.ref 294)), ⟨[]⟩⟩
noncomputable def o191 (P : Params) : Obj := ⟨(.type "tuple"), none, (.seq ⟨[(.str s23 589)]⟩ 0), ⟨[]⟩⟩
noncomputable def o192 (P : Params) : Obj := ⟨.none, none, (fnD (pmF 41 5) s114 0 0 .none .none .none .none .none .none), ⟨[]⟩⟩
noncomputable def o193 (P : Params) : Obj := ⟨(.type "code"), none, (.fields ⟨[(.str s106 586), (.str s114 587), (.str s1 588), (.int 204 0), (.int 1 0), (.int 0 0), (.int 0 0), (.int 3 0), (.ref 296), (.bool true), (.int 181 0), (.ref 297), .none, (.ref 298), (.ref 299), (.ref 300), (.int 590 0), (.int 204 0), (.str s1 591)]⟩), ⟨[]⟩⟩
noncomputable def o194 (P : Params) : Obj := ⟨(.type "function"), none, (fnD (pmF 41 5) s114 3 0 (.str s86 533) .none .none .none .none (.ref 301)), ⟨[]⟩⟩
noncomputable def o195 (P : Params) : Obj := ⟨(.type "tuple"), none, (.seq ⟨[(.str s23 596), (.str s63 597)]⟩ 0), ⟨[]⟩⟩
noncomputable def o196 (P : Params) : Obj := ⟨.none, none, (fnD (pmF 41 6) s115 0 0 .none .none .none .none .none .none), ⟨[]⟩⟩
noncomputable def o197 (P : Params) : Obj := ⟨(.type "code"), none, (.fields ⟨[(.str s107 593), (.str s115 594), (.str s1 595), (.int 209 0), (.int 2 0), (.int 0 0), (.int 0 0), (.int 3 0), (.ref 303), (.bool true), (.int 181 0), (.ref 304), .none, (.ref 305), (.ref 306), (.ref 307), (.int 598 0), (.int 209 0), (.str s1 599)]⟩), ⟨[]⟩⟩
noncomputable def o198 (P : Params) : Obj := ⟨(.type "function"), none, (fnD (pmF 41 6) s115 3 0 (.str s86 533) .none .none .none .none (.ref 308)), ⟨[]⟩⟩
noncomputable def o199 (P : Params) : Obj := ⟨(.type "tuple"), none, (.seq ⟨[(.str s108 601), (.str s97 602), (.str s116 603)]⟩ 0), ⟨[]⟩⟩
noncomputable def o200 (P : Params) : Obj := ⟨(.type "dict"), none, (.dict ⟨[eF P s18 542 (.str s86 533), eF P s20 546 (.int 180 545), eF P s21 554 (.ref 267), eF P s102 561 (.ref 274), eF P s103 569 (.ref 281), eF P s104 578 (.ref 288), eF P s105 585 (.ref 295), eF P s106 592 (.ref 302), eF P s107 600 (.ref 309), eF P s22 604 (.ref 310), eF P s77 606 (.ref 313), eF P s26 608 (.ref 314), eF P s7 609 .none]⟩ 4), ⟨[]⟩⟩
noncomputable def o201 (P : Params) : Obj := ⟨(.type "type"), none, (.cls { name := s101, bases := [(.type "object")], mro := [(.ref 312), (.type "object")], ns := 311, qualname := s101, hasDict := true, slotNames := [], subclasses := [], abstract := false, collection := none, hasDel := false }), ⟨[none, none, some (.str s101 535), some (.str s101 543), some (.builtin "object.__new__"), some (.bool true)]⟩⟩
noncomputable def o202 (P : Params) : Obj := ⟨(.type "getset_descriptor"), none, (.fields ⟨[(.str s77 605), (.ref 312), (.builtin "function.__dict__"), (.builtin "function.__dict__#set")]⟩), ⟨[]⟩⟩
noncomputable def o203 (P : Params) : Obj := ⟨(.type "getset_descriptor"), none, (.fields ⟨[(.str s26 607), (.ref 312), (.builtin "ExceptionGroup.__weakref__"), .none]⟩), ⟨[]⟩⟩
noncomputable def o204 (P : Params) : Obj := ⟨(.type "super"), none, (.fields ⟨[(.ref 312), (.ref 312), (.ref 312)]⟩), ⟨[]⟩⟩
noncomputable def o205 (P : Params) : Obj := ⟨(.type "builtin_function_or_method"), none, (.fields ⟨[(.builtin "object.__init_subclass__"), (.ref 312)]⟩), ⟨[]⟩⟩
noncomputable def o206 (P : Params) : Obj := ⟨(.type "dict"), none, (.dict ⟨[eF P s5 165 (.str s117 612), eF P s7 166 .none, eF P s8 167 .none, eF P s9 168 (.builtin "__main__.__loader__#opaque"), eF P s10 169 .none, eF P s11 170 (.ref 6), eF P s12 171 (.ref 4), eF P s13 173 (.str s1 172), eF P s14 174 .none, eF P s15 193 (.ref 21), eF P s16 224 (.ref 38), eF P s27 240 (.ref 51), eF P s29 256 (.ref 63), eF P s30 258 (.int 32 257), eF P s31 262 (.int 10 261), eF P s32 264 (.int 13 263), eF P s33 266 (.int 4 265), eF P s34 274 (.ref 72), eF P s35 282 (.ref 79), eF P s36 291 (.ref 86), eF P s37 300 (.ref 93), eF P s42 308 (.ref 100), eF P s43 315 (.ref 107), eF P s44 322 (.ref 114), eF P s45 326 (.int 18446744073709551616 325), eF P s46 338 (.ref 121), eF P s47 349 (.ref 128), eF P s48 353 (.int 2 352), eF P s49 360 (.ref 135), eF P s50 366 (.ref 140), eF P s51 373 (.ref 147), eF P s52 382 (.ref 154), eF P s53 389 (.ref 161), eF P s54 397 (.ref 168), eF P s66 407 (.ref 175), eF P s67 447 (.ref 199), eF P s68 456 (.ref 210), eF P s69 474 (.ref 217), eF P s87 490 (.ref 224), eF P s88 501 (.ref 231), eF P s89 514 (.ref 238), eF P s90 520 (.ref 243), eF P s91 526 (.ref 248), eF P s92 532 (.ref 253), eF P s101 611 (.ref 312), eF P s118 624 (.ref 323), eF P s119 633 (.ref 330), eF P s120 641 (.ref 337), eF P s121 648 (.ref 344), eF P s122 664 (.ref 351), eF P s123 670 (.ref 356), eF P s124 683 (.ref 363), eF P s125 691 (.ref 370), eF P s126 704 (.ref 377), eF P s127 721 (.ref 384), eF P s128 739 (.ref 391)]⟩ 56), ⟨[]⟩⟩
noncomputable def o207 (P : Params) : Obj := ⟨.none, none, (.fields ⟨[(.int 1 0), (.int 0 0), (.ref 20), (.int 5 0), (.int 0 0), (.ref 27), (.int 9 0), (.int 0 0), (.ref 47), (.int 11 0), (.int 0 0), (.ref 59), (.int 18 0), (.int 0 0), (.ref 71), (.int 20 0), (.int 0 0), (.ref 78), (.int 22 0), (.int 0 0), (.ref 85), (.int 25 0), (.int 0 0), (.ref 92), (.int 28 0), (.int 0 0), (.ref 99), (.int 32 0), (.int 0 0), (.ref 106), (.int 34 0), (.int 0 0), (.ref 113), (.int 40 0), (.int 0 0), (.ref 120), (.int 57 0), (.int 0 0), (.ref 127), (.int 72 0), (.int 0 0), (.ref 134), (.int 74 0), (.int 0 0), (.ref 139), (.int 76 0), (.int 0 0), (.ref 146), (.int 78 0), (.int 0 0), (.ref 153), (.int 80 0), (.int 0 0), (.ref 160), (.int 82 0), (.int 0 0), (.ref 167), (.int 84 0), (.int 0 0), (.ref 174), (.int 88 0), (.int 0 0), (.ref 181), (.int 97 0), (.int 0 0), (.ref 209), (.int 99 0), (.int 0 0), (.ref 216), (.int 116 0), (.int 0 0), (.ref 223), (.int 128 0), (.int 0 0), (.ref 230), (.int 138 0), (.int 0 0), (.ref 237), (.int 155 0), (.int 0 0), (.ref 242), (.int 157 0), (.int 0 0), (.ref 247), (.int 170 0), (.int 0 0), (.ref 252), (.int 180 0), (.int 0 0), (.ref 259), (.int 212 0), (.int 0 0), (.ref 322), (.int 219 0), (.int 0 0), (.ref 329), (.int 226 0), (.int 0 0), (.ref 336), (.int 228 0), (.int 0 0), (.ref 343), (.int 230 0), (.int 0 0), (.ref 350), (.int 238 0), (.int 0 0), (.ref 355), (.int 240 0), (.int 0 0), (.ref 362), (.int 258 0), (.int 0 0), (.ref 369), (.int 260 0), (.int 0 0), (.ref 376), (.int 271 0), (.int 0 0), (.ref 383), (.int 283 0), (.int 0 0), (.ref 390)]⟩), ⟨[]⟩⟩
noncomputable def o208 (P : Params) : Obj := ⟨(.type "tuple"), none, (.seq ⟨[(.str s129 617), (.str s17 618), (.str s130 619), (.str s131 620), (.str s132 621)]⟩ 0), ⟨[]⟩⟩
noncomputable def o209 (P : Params) : Obj := ⟨.none, none, (fnD (pbF 43) s118 0 0 .none .none .none .none .none .none), ⟨[]⟩⟩
noncomputable def o210 (P : Params) : Obj := ⟨(.type "code"), none, (.fields ⟨[(.str s118 614), (.str s118 615), (.str s1 616), (.int 212 0), (.int 2 0), (.int 0 0), (.int 0 0), (.int 3 0), (.ref 317), (.bool true), (.int 181 0), (.ref 318), .none, (.ref 319), (.ref 320), (.ref 321), (.int 622 0), (.int 212 0), (.str s1 623)]⟩), ⟨[]⟩⟩
noncomputable def o211 (P : Params) : Obj := ⟨(.type "function"), none, (fnD (pbF 43) s118 3 0 (.str s117 612) .none .none .none .none (.ref 322)), ⟨[]⟩⟩
noncomputable def o212 (P : Params) : Obj := ⟨(.type "tuple"), none, (.seq ⟨[(.str s133 628), (.str s134 629), (.str s135 630)]⟩ 0), ⟨[]⟩⟩
noncomputable def o213 (P : Params) : Obj := ⟨.none, none, (fnD (pbF 44) s119 0 0 .none .none .none .none .none .none), ⟨[]⟩⟩
noncomputable def o214 (P : Params) : Obj := ⟨(.type "code"), none, (.fields ⟨[(.str s119 625), (.str s119 626), (.str s1 627), (.int 219 0), (.int 2 0), (.int 0 0), (.int 0 0), (.int 3 0), (.ref 324), (.bool true), (.int 181 0), (.ref 325), .none, (.ref 326), (.ref 327), (.ref 328), (.int 631 0), (.int 219 0), (.str s1 632)]⟩), ⟨[]⟩⟩
noncomputable def o215 (P : Params) : Obj := ⟨(.type "function"), none, (fnD (pbF 44) s119 3 0 (.str s117 612) .none .none .none .none (.ref 329)), ⟨[]⟩⟩
noncomputable def o216 (P : Params) : Obj := ⟨(.type "tuple"), none, (.seq ⟨[(.str s133 637), (.str s136 638)]⟩ 0), ⟨[]⟩⟩
noncomputable def o217 (P : Params) : Obj := ⟨.none, none, (fnD (pbF 45) s120 0 0 .none .none .none .none .none .none), ⟨[]⟩⟩
noncomputable def o218 (P : Params) : Obj := ⟨(.type "code"), none, (.fields ⟨[(.str s120 634), (.str s120 635), (.str s1 636), (.int 226 0), (.int 2 0), (.int 0 0), (.int 0 0), (.int 3 0), (.ref 331), (.bool true), (.int 181 0), (.ref 332), .none, (.ref 333), (.ref 334), (.ref 335), (.int 639 0), (.int 226 0), (.str s1 640)]⟩), ⟨[]⟩⟩
noncomputable def o219 (P : Params) : Obj := ⟨(.type "function"), none, (fnD (pbF 45) s120 3 0 (.str s117 612) .none .none .none .none (.ref 336)), ⟨[]⟩⟩
noncomputable def o220 (P : Params) : Obj := ⟨(.type "tuple"), none, (.seq ⟨[(.str s40 645)]⟩ 0), ⟨[]⟩⟩
noncomputable def o221 (P : Params) : Obj := ⟨.none, none, (fnD (pbF 46) s121 0 0 .none .none .none .none .none .none), ⟨[]⟩⟩
noncomputable def o222 (P : Params) : Obj := ⟨(.type "code"), none, (.fields ⟨[(.str s121 642), (.str s121 643), (.str s1 644), (.int 228 0), (.int 1 0), (.int 0 0), (.int 0 0), (.int 3 0), (.ref 338), (.bool true), (.int 181 0), (.ref 339), .none, (.ref 340), (.ref 341), (.ref 342), (.int 646 0), (.int 228 0), (.str s1 647)]⟩), ⟨[]⟩⟩
noncomputable def o223 (P : Params) : Obj := ⟨(.type "function"), none, (fnD (pbF 46) s121 3 0 (.str s117 612) .none .none .none .none (.ref 343)), ⟨[]⟩⟩
noncomputable def o224 (P : Params) : Obj := ⟨(.type "tuple"), none, (.seq ⟨[(.str s70 652), (.str s56 653), (.str s73 654), (.str s74 655), (.str s137 656), (.str s82 657), (.str s39 658), (.str s62 659), (.str s83 660), (.str s84 661)]⟩ 0), ⟨[]⟩⟩
noncomputable def o225 (P : Params) : Obj := ⟨.none, none, (fnD (pbF 47) s122 0 0 .none .none .none .none .none .none), ⟨[]⟩⟩
noncomputable def o226 (P : Params) : Obj := ⟨(.type "code"), none, (.fields ⟨[(.str s122 649), (.str s122 650), (.str s1 651), (.int 230 0), (.int 4 0), (.int 0 0), (.int 0 0), (.int 3 0), (.ref 345), (.bool true), (.int 181 0), (.ref 346), .none, (.ref 347), (.ref 348), (.ref 349), (.int 662 0), (.int 230 0), (.str s1 663)]⟩), ⟨[]⟩⟩
noncomputable def o227 (P : Params) : Obj := ⟨(.type "function"), none, (fnD (pbF 47) s122 3 0 (.str s117 612) .none .none .none .none (.ref 350)), ⟨[]⟩⟩
noncomputable def o228 (P : Params) : Obj := ⟨.none, none, (fnD (pbF 48) s123 0 0 .none .none .none .none .none .none), ⟨[]⟩⟩
noncomputable def o229 (P : Params) : Obj := ⟨(.type "code"), none, (.fields ⟨[(.str s123 665), (.str s123 666), (.str s1 667), (.int 238 0), (.int 1 0), (.int 0 0), (.int 0 0), (.int 3 0), (.ref 352), (.bool true), (.int 181 0), (.ref 353), .none, .none, .none, (.ref 354), (.int 668 0), (.int 238 0), (.str s1 669)]⟩), ⟨[]⟩⟩
noncomputable def o230 (P : Params) : Obj := ⟨(.type "function"), none, (fnD (pbF 48) s123 3 0 (.str s117 612) .none .none .none .none (.ref 355)), ⟨[]⟩⟩
noncomputable def o231 (P : Params) : Obj := ⟨(.type "tuple"), none, (.seq ⟨[(.str s73 674), (.str s93 675), (.str s138 676), (.str s97 677), (.str s99 678), (.str s139 679), (.str s140 680)]⟩ 0), ⟨[]⟩⟩
noncomputable def o232 (P : Params) : Obj := ⟨.none, none, (fnD (pbF 49) s124 0 0 .none .none .none .none .none .none), ⟨[]⟩⟩
noncomputable def o233 (P : Params) : Obj := ⟨(.type "code"), none, (.fields ⟨[(.str s124 671), (.str s124 672), (.str s1 673), (.int 240 0), (.int 3 0), (.int 0 0), (.int 0 0), (.int 3 0), (.ref 357), (.bool true), (.int 181 0), (.ref 358), .none, (.ref 359), (.ref 360), (.ref 361), (.int 681 0), (.int 240 0), (.str s1 682)]⟩), ⟨[]⟩⟩
noncomputable def o234 (P : Params) : Obj := ⟨(.type "function"), none, (fnD (pbF 49) s124 3 0 (.str s117 612) .none .none .none .none (.ref 362)), ⟨[]⟩⟩
noncomputable def o235 (P : Params) : Obj := ⟨(.type "tuple"), none, (.seq ⟨[(.str s56 687), (.str s70 688)]⟩ 0), ⟨[]⟩⟩
noncomputable def o236 (P : Params) : Obj := ⟨.none, none, (fnD (pbF 50) s125 0 0 .none .none .none .none .none .none), ⟨[]⟩⟩
noncomputable def o237 (P : Params) : Obj := ⟨(.type "code"), none, (.fields ⟨[(.str s125 684), (.str s125 685), (.str s1 686), (.int 258 0), (.int 2 0), (.int 0 0), (.int 0 0), (.int 3 0), (.ref 364), (.bool true), (.int 181 0), (.ref 365), .none, (.ref 366), (.ref 367), (.ref 368), (.int 689 0), (.int 258 0), (.str s1 690)]⟩), ⟨[]⟩⟩
noncomputable def o238 (P : Params) : Obj := ⟨(.type "function"), none, (fnD (pbF 50) s125 3 0 (.str s117 612) .none .none .none .none (.ref 369)), ⟨[]⟩⟩
noncomputable def o239 (P : Params) : Obj := ⟨(.type "tuple"), none, (.seq ⟨[(.str s133 695), (.str s56 696), (.str s70 697), (.str s141 698), (.str s55 699), (.str s59 700), (.str s58 701)]⟩ 0), ⟨[]⟩⟩
noncomputable def o240 (P : Params) : Obj := ⟨.none, none, (fnD (pbF 51) s126 0 0 .none .none .none .none .none .none), ⟨[]⟩⟩
noncomputable def o241 (P : Params) : Obj := ⟨(.type "code"), none, (.fields ⟨[(.str s126 692), (.str s126 693), (.str s1 694), (.int 260 0), (.int 3 0), (.int 0 0), (.int 0 0), (.int 3 0), (.ref 371), (.bool true), (.int 181 0), (.ref 372), .none, (.ref 373), (.ref 374), (.ref 375), (.int 702 0), (.int 260 0), (.str s1 703)]⟩), ⟨[]⟩⟩
noncomputable def o242 (P : Params) : Obj := ⟨(.type "function"), none, (fnD (pbF 51) s126 3 0 (.str s117 612) .none .none .none .none (.ref 376)), ⟨[]⟩⟩
noncomputable def o243 (P : Params) : Obj := ⟨(.type "tuple"), none, (.seq ⟨[(.str s56 708), (.str s70 709), (.str s73 710), (.str s74 711), (.str s94 712), (.str s97 713), (.str s99 714), (.str s142 715), (.str s143 716), (.str s39 717), (.str s144 718)]⟩ 0), ⟨[]⟩⟩
noncomputable def o244 (P : Params) : Obj := ⟨.none, none, (fnD (pbF 52) s127 0 0 .none .none .none .none .none .none), ⟨[]⟩⟩
noncomputable def o245 (P : Params) : Obj := ⟨(.type "code"), none, (.fields ⟨[(.str s127 705), (.str s127 706), (.str s1 707), (.int 271 0), (.int 5 0), (.int 0 0), (.int 0 0), (.int 3 0), (.ref 378), (.bool true), (.int 181 0), (.ref 379), .none, (.ref 380), (.ref 381), (.ref 382), (.int 719 0), (.int 271 0), (.str s1 720)]⟩), ⟨[]⟩⟩
noncomputable def o246 (P : Params) : Obj := ⟨(.type "function"), none, (fnD (pbF 52) s127 3 0 (.str s117 612) .none .none .none .none (.ref 383)), ⟨[]⟩⟩
noncomputable def o247 (P : Params) : Obj := ⟨(.type "tuple"), none, (.seq ⟨[(.str s133 725), (.str s56 726), (.str s70 727), (.str s145 728), (.str s73 729), (.str s74 730), (.str s59 731), (.str s140 732), (.str s142 733), (.str s143 734), (.str s100 735), (.str s137 736)]⟩ 0), ⟨[]⟩⟩
noncomputable def o248 (P : Params) : Obj := ⟨.none, none, (fnD (pbF 53) s128 0 0 .none .none .none .none .none .none), ⟨[]⟩⟩
noncomputable def o249 (P : Params) : Obj := ⟨(.type "code"), none, (.fields ⟨[(.str s128 722), (.str s128 723), (.str s1 724), (.int 283 0), (.int 3 0), (.int 0 0), (.int 0 0), (.int 3 0), (.ref 385), (.bool true), (.int 181 0), (.ref 386), .none, (.ref 387), (.ref 388), (.ref 389), (.int 737 0), (.int 283 0), (.str s1 738)]⟩), ⟨[]⟩⟩
noncomputable def o250 (P : Params) : Obj := ⟨(.type "function"), none, (fnD (pbF 53) s128 3 0 (.str s117 612) .none .none .none .none (.ref 390)), ⟨[]⟩⟩
noncomputable def o251 (P : Params) : Obj := ⟨(.type "dict"), none, (.dict ⟨[eF P s5 165 (.str s117 612), eF P s7 166 .none, eF P s8 167 .none, eF P s9 168 (.builtin "__main__.__loader__#opaque"), eF P s10 169 .none, eF P s11 170 (.ref 6), eF P s12 171 (.ref 4), eF P s13 173 (.str s1 172), eF P s14 174 .none, eF P s15 193 (.ref 21), eF P s16 224 (.ref 38), eF P s27 240 (.ref 51), eF P s29 256 (.ref 63), eF P s30 258 (.int 32 257), eF P s31 262 (.int 10 261), eF P s32 264 (.int 13 263), eF P s33 266 (.int 4 265), eF P s34 274 (.ref 72), eF P s35 282 (.ref 79), eF P s36 291 (.ref 86), eF P s37 300 (.ref 93), eF P s42 308 (.ref 100), eF P s43 315 (.ref 107), eF P s44 322 (.ref 114), eF P s45 326 (.int 18446744073709551616 325), eF P s46 338 (.ref 121), eF P s47 349 (.ref 128), eF P s48 353 (.int 2 352), eF P s49 360 (.ref 135), eF P s50 366 (.ref 140), eF P s51 373 (.ref 147), eF P s52 382 (.ref 154), eF P s53 389 (.ref 161), eF P s54 397 (.ref 168), eF P s66 407 (.ref 175), eF P s67 447 (.ref 199), eF P s68 456 (.ref 210), eF P s69 474 (.ref 217), eF P s87 490 (.ref 224), eF P s88 501 (.ref 231), eF P s89 514 (.ref 238), eF P s90 520 (.ref 243), eF P s91 526 (.ref 248), eF P s92 532 (.ref 253), eF P s101 611 (.ref 312), eF P s118 624 (.ref 323), eF P s119 633 (.ref 330), eF P s120 641 (.ref 337), eF P s121 648 (.ref 344), eF P s122 664 (.ref 351), eF P s123 670 (.ref 356), eF P s124 683 (.ref 363), eF P s125 691 (.ref 370), eF P s126 704 (.ref 377), eF P s127 721 (.ref 384), eF P s128 739 (.ref 391), eF P s146 745 (.ref 396), eF P s147 751 (.ref 401), eF P s148 760 (.ref 408)]⟩ 59), ⟨[]⟩⟩
noncomputable def o252 (P : Params) : Obj := ⟨.none, none, (.fields ⟨[(.int 1 0), (.int 0 0), (.ref 20), (.int 5 0), (.int 0 0), (.ref 27), (.int 9 0), (.int 0 0), (.ref 47), (.int 11 0), (.int 0 0), (.ref 59), (.int 18 0), (.int 0 0), (.ref 71), (.int 20 0), (.int 0 0), (.ref 78), (.int 22 0), (.int 0 0), (.ref 85), (.int 25 0), (.int 0 0), (.ref 92), (.int 28 0), (.int 0 0), (.ref 99), (.int 32 0), (.int 0 0), (.ref 106), (.int 34 0), (.int 0 0), (.ref 113), (.int 40 0), (.int 0 0), (.ref 120), (.int 57 0), (.int 0 0), (.ref 127), (.int 72 0), (.int 0 0), (.ref 134), (.int 74 0), (.int 0 0), (.ref 139), (.int 76 0), (.int 0 0), (.ref 146), (.int 78 0), (.int 0 0), (.ref 153), (.int 80 0), (.int 0 0), (.ref 160), (.int 82 0), (.int 0 0), (.ref 167), (.int 84 0), (.int 0 0), (.ref 174), (.int 88 0), (.int 0 0), (.ref 181), (.int 97 0), (.int 0 0), (.ref 209), (.int 99 0), (.int 0 0), (.ref 216), (.int 116 0), (.int 0 0), (.ref 223), (.int 128 0), (.int 0 0), (.ref 230), (.int 138 0), (.int 0 0), (.ref 237), (.int 155 0), (.int 0 0), (.ref 242), (.int 157 0), (.int 0 0), (.ref 247), (.int 170 0), (.int 0 0), (.ref 252), (.int 180 0), (.int 0 0), (.ref 259), (.int 212 0), (.int 0 0), (.ref 322), (.int 219 0), (.int 0 0), (.ref 329), (.int 226 0), (.int 0 0), (.ref 336), (.int 228 0), (.int 0 0), (.ref 343), (.int 230 0), (.int 0 0), (.ref 350), (.int 238 0), (.int 0 0), (.ref 355), (.int 240 0), (.int 0 0), (.ref 362), (.int 258 0), (.int 0 0), (.ref 369), (.int 260 0), (.int 0 0), (.ref 376), (.int 271 0), (.int 0 0), (.ref 383), (.int 283 0), (.int 0 0), (.ref 390), (.int 291 0), (.int 0 0), (.ref 395), (.int 302 0), (.int 0 0), (.ref 400), (.int 307 0), (.int 0 0), (.ref 407)]⟩), ⟨[]⟩⟩
noncomputable def o253 (P : Params) : Obj := ⟨.none, none, (fnD (pbF 54) s146 0 0 .none .none .none .none .none .none), ⟨[]⟩⟩
noncomputable def o254 (P : Params) : Obj := ⟨(.type "code"), none, (.fields ⟨[(.str s146 740), (.str s146 741), (.str s1 742), (.int 291 0), (.int 2 0), (.int 0 0), (.int 0 0), (.int 3 0), (.ref 392), (.bool true), (.int 181 0), (.ref 393), .none, .none, .none, (.ref 394), (.int 743 0), (.int 291 0), (.str s1 744)]⟩), ⟨[]⟩⟩
noncomputable def o255 (P : Params) : Obj := ⟨(.type "function"), none, (fnD (pbF 54) s146 3 0 (.str s117 612) .none .none .none .none (.ref 395)), ⟨[]⟩⟩
noncomputable def o256 (P : Params) : Obj := ⟨.none, none, (fnD (pbF 55) s147 0 0 .none .none .none .none .none .none), ⟨[]⟩⟩
noncomputable def o257 (P : Params) : Obj := ⟨(.type "code"), none, (.fields ⟨[(.str s147 746), (.str s147 747), (.str s1 748), (.int 302 0), (.int 0 0), (.int 0 0), (.int 0 0), (.int 3 0), (.ref 397), (.bool true), (.int 181 0), (.ref 398), .none, .none, .none, (.ref 399), (.int 749 0), (.int 302 0), (.str s1 750)]⟩), ⟨[]⟩⟩
noncomputable def o258 (P : Params) : Obj := ⟨(.type "function"), none, (fnD (pbF 55) s147 3 0 (.str s117 612) .none .none .none .none (.ref 400)), ⟨[]⟩⟩
noncomputable def o259 (P : Params) : Obj := ⟨(.type "tuple"), none, (.seq ⟨[(.str s129 755), (.str s133 756), (.str s70 757)]⟩ 0), ⟨[]⟩⟩
noncomputable def o260 (P : Params) : Obj := ⟨.none, none, (fnD (pbF 56) s148 0 0 .none .none .none .none .none .none), ⟨[]⟩⟩
noncomputable def o261 (P : Params) : Obj := ⟨(.type "code"), none, (.fields ⟨[(.str s148 752), (.str s148 753), (.str s1 754), (.int 307 0), (.int 1 0), (.int 0 0), (.int 0 0), (.int 3 0), (.ref 402), (.bool true), (.int 181 0), (.ref 403), .none, (.ref 404), (.ref 405), (.ref 406), (.int 758 0), (.int 307 0), (.str s1 759)]⟩), ⟨[]⟩⟩
noncomputable def o262 (P : Params) : Obj := ⟨(.type "function"), none, (fnD (pbF 56) s148 3 0 (.str s117 612) .none .none .none .none (.ref 407)), ⟨[]⟩⟩

noncomputable def envF : Env := { scope := pF.main.scope, locals := mainNs, globals := mainNs, cells := [], code := .ref 13, frame := some 14 }
noncomputable def cF : Code := .body (behindTheImports pF) envF
abbrev qF : Pos := ⟨0, 0, 0, 0⟩
noncomputable def hA (P : Params) : Heap := ⟨⟨[boot_o_0 P, boot_o_1 P, boot_o_2 P, boot_o_3 P, boot_o_4 P, boot_o_5 P, boot_o_6 P, boot_o_7 P, boot_o_8 P, boot_o_9 P, boot_o_10 P, o0 P, o1 P, o2 P, o3 P]⟩, Life.mk⟩
abbrev kA : Nat := 187
noncomputable def t0 (P : Params) : BT := (.node (boot_o_0 P) (.node (boot_o_1 P) (.node (boot_o_3 P) (.node (boot_o_7 P) .nil .nil) (.node (o0 P) .nil .nil)) (.node (boot_o_5 P) (.node (boot_o_9 P) .nil .nil) (.node (o2 P) .nil .nil))) (.node (boot_o_2 P) (.node (boot_o_4 P) (.node (boot_o_8 P) .nil .nil) (.node (o1 P) .nil .nil)) (.node (boot_o_6 P) (.node (boot_o_10 P) .nil .nil) (.node (o3 P) .nil .nil))))
abbrev n0 : Nat := 15
abbrev k0 : Nat := 187
noncomputable def t1 (P : Params) : BT := (.node (boot_o_0 P) (.node (boot_o_1 P) (.node (o5 P) (.node (boot_o_7 P) (.node (o0 P) (.node (o17 P) .nil .nil) .nil) (.node (o12 P) (.node (o24 P) .nil .nil) .nil)) (.node (o0 P) (.node (o8 P) (.node (o20 P) .nil .nil) .nil) (.node (o15 P) .nil .nil))) (.node (boot_o_5 P) (.node (boot_o_9 P) (.node (o7 P) (.node (o18 P) .nil .nil) .nil) (.node (o0 P) (.node (o26 P) .nil .nil) .nil)) (.node (o2 P) (.node (o10 P) (.node (o22 P) .nil .nil) .nil) (.node (o0 P) .nil .nil)))) (.node (o4 P) (.node (boot_o_4 P) (.node (boot_o_8 P) (.node (o1 P) (.node (o0 P) .nil .nil) .nil) (.node (o13 P) (.node (o25 P) .nil .nil) .nil)) (.node (o6 P) (.node (o9 P) (.node (o21 P) .nil .nil) .nil) (.node (o16 P) .nil .nil))) (.node (boot_o_6 P) (.node (boot_o_10 P) (.node (o0 P) (.node (o19 P) .nil .nil) .nil) (.node (o14 P) .nil .nil)) (.node (o3 P) (.node (o11 P) (.node (o23 P) .nil .nil) .nil) (.node (o1 P) .nil .nil)))))
abbrev n1 : Nat := 42
abbrev k1 : Nat := 225
noncomputable def b0 : List Stmt := [pbF 0, pbF 1, pbF 2]
theorem p0 (w : World) (os : OsState) : segRunT treeTable pF w 11 (some (.ref 6)) 1 267 ⟨t0 w.params, n0, Life.mk, #[], {}, k0, os⟩ (piecesOf b0 envF cF ⟨0, 0, 0, 0⟩ [topFrame qF]) = some (.next, ⟨t1 w.params, n1, Life.mk, #[], {}, k1, os⟩, cF, ⟨5, 0, 8, 30⟩) := by
  rewrite [PySem.W.Fast.te10110043849684766642, PySem.W.Fast.te14364793385576792824]; kernel_rfl
noncomputable def t2 (P : Params) : BT := (.node (boot_o_0 P) (.node (boot_o_1 P) (.node (o27 P) (.node (boot_o_7 P) (.node (o0 P) (.node (o17 P) .nil .nil) (.node (o32 P) .nil .nil)) (.node (o12 P) (.node (o24 P) .nil .nil) .nil)) (.node (o0 P) (.node (o8 P) (.node (o20 P) .nil .nil) (.node (o35 P) .nil .nil)) (.node (o15 P) (.node (o12 P) .nil .nil) .nil))) (.node (boot_o_5 P) (.node (boot_o_9 P) (.node (o7 P) (.node (o18 P) .nil .nil) (.node (o0 P) .nil .nil)) (.node (o0 P) (.node (o26 P) .nil .nil) .nil)) (.node (o2 P) (.node (o10 P) (.node (o22 P) .nil .nil) (.node (o37 P) .nil .nil)) (.node (o0 P) (.node (o0 P) .nil .nil) .nil)))) (.node (o4 P) (.node (boot_o_4 P) (.node (boot_o_8 P) (.node (o1 P) (.node (o0 P) .nil .nil) (.node (o33 P) .nil .nil)) (.node (o13 P) (.node (o25 P) .nil .nil) .nil)) (.node (o28 P) (.node (o9 P) (.node (o21 P) .nil .nil) (.node (o36 P) .nil .nil)) (.node (o16 P) (.node (o31 P) .nil .nil) .nil))) (.node (boot_o_6 P) (.node (boot_o_10 P) (.node (o0 P) (.node (o19 P) .nil .nil) (.node (o34 P) .nil .nil)) (.node (o14 P) (.node (o30 P) .nil .nil) .nil)) (.node (o3 P) (.node (o11 P) (.node (o29 P) .nil .nil) .nil) (.node (o1 P) (.node (o1 P) .nil .nil) .nil)))))
abbrev n2 : Nat := 54
abbrev k2 : Nat := 241
noncomputable def b1 : List Stmt := [pbF 3]
theorem p1 (w : World) (os : OsState) : segRunT treeTable pF w 11 (some (.ref 6)) 1 214 ⟨t1 w.params, n1, Life.mk, #[], {}, k1, os⟩ (piecesOf b1 envF cF ⟨5, 0, 8, 30⟩ [topFrame qF]) = some (.next, ⟨t2 w.params, n2, Life.mk, #[], {}, k2, os⟩, cF, ⟨9, 0, 10, 8⟩) := by
  rewrite [PySem.W.Fast.te10110043849684766642, PySem.W.Fast.te14364793385576792824]; kernel_rfl
noncomputable def t3 (P : Params) : BT := (.node (boot_o_0 P) (.node (boot_o_1 P) (.node (o38 P) (.node (boot_o_7 P) (.node (o0 P) (.node (o17 P) (.node (o45 P) .nil .nil) .nil) (.node (o32 P) (.node (o55 P) .nil .nil) .nil)) (.node (o12 P) (.node (o24 P) (.node (o50 P) .nil .nil) .nil) (.node (o12 P) (.node (o0 P) .nil .nil) .nil))) (.node (o0 P) (.node (o8 P) (.node (o20 P) (.node (o1 P) .nil .nil) .nil) (.node (o35 P) (.node (o0 P) .nil .nil) .nil)) (.node (o15 P) (.node (o12 P) (.node (o52 P) .nil .nil) .nil) (.node (o42 P) (.node (o61 P) .nil .nil) .nil)))) (.node (boot_o_5 P) (.node (boot_o_9 P) (.node (o7 P) (.node (o18 P) (.node (o47 P) .nil .nil) .nil) (.node (o0 P) (.node (o1 P) .nil .nil) .nil)) (.node (o0 P) (.node (o26 P) (.node (o0 P) .nil .nil) .nil) (.node (o0 P) (.node (o60 P) .nil .nil) .nil))) (.node (o2 P) (.node (o10 P) (.node (o22 P) (.node (o0 P) .nil .nil) .nil) (.node (o37 P) (.node (o58 P) .nil .nil) .nil)) (.node (o0 P) (.node (o0 P) (.node (o53 P) .nil .nil) .nil) (.node (o0 P) (.node (o63 P) .nil .nil) .nil))))) (.node (o4 P) (.node (boot_o_4 P) (.node (boot_o_8 P) (.node (o1 P) (.node (o0 P) (.node (o46 P) .nil .nil) .nil) (.node (o33 P) (.node (o0 P) .nil .nil) .nil)) (.node (o13 P) (.node (o25 P) (.node (o51 P) .nil .nil) .nil) (.node (o41 P) (.node (o1 P) .nil .nil) .nil))) (.node (o39 P) (.node (o9 P) (.node (o21 P) (.node (o48 P) .nil .nil) .nil) (.node (o36 P) (.node (o57 P) .nil .nil) .nil)) (.node (o16 P) (.node (o31 P) (.node (o0 P) .nil .nil) .nil) (.node (o43 P) (.node (o62 P) .nil .nil) .nil)))) (.node (boot_o_6 P) (.node (boot_o_10 P) (.node (o0 P) (.node (o19 P) (.node (o0 P) .nil .nil) .nil) (.node (o34 P) (.node (o56 P) .nil .nil) .nil)) (.node (o14 P) (.node (o30 P) (.node (o1 P) .nil .nil) .nil) (.node (o1 P) (.node (o0 P) .nil .nil) .nil))) (.node (o3 P) (.node (o11 P) (.node (o40 P) (.node (o49 P) .nil .nil) .nil) (.node (o30 P) (.node (o59 P) .nil .nil) .nil)) (.node (o1 P) (.node (o1 P) (.node (o54 P) .nil .nil) .nil) (.node (o44 P) .nil .nil))))))
abbrev n3 : Nat := 94
abbrev k3 : Nat := 301
noncomputable def b2 : List Stmt := [pbF 4, pbF 5, pbF 6, pbF 7, pbF 8, pbF 9, pbF 10, pbF 11, pbF 12, pbF 13]
theorem p2 (w : World) (os : OsState) : segRunT treeTable pF w 11 (some (.ref 6)) 1 381 ⟨t2 w.params, n2, Life.mk, #[], {}, k2, os⟩ (piecesOf b2 envF cF ⟨9, 0, 10, 8⟩ [topFrame qF]) = some (.next, ⟨t3 w.params, n3, Life.mk, #[], {}, k3, os⟩, cF, ⟨25, 0, 27, 43⟩) := by
  rewrite [PySem.W.Fast.te10110043849684766642, PySem.W.Fast.te14364793385576792824]; kernel_rfl
noncomputable def t4 (P : Params) : BT := (.node (boot_o_0 P) (.node (boot_o_1 P) (.node (o64 P) (.node (boot_o_7 P) (.node (o0 P) (.node (o17 P) (.node (o45 P) (.node (o84 P) .nil .nil) .nil) (.node (o1 P) (.node (o102 P) .nil .nil) .nil)) (.node (o32 P) (.node (o55 P) (.node (o93 P) .nil .nil) .nil) (.node (o0 P) .nil .nil))) (.node (o12 P) (.node (o24 P) (.node (o50 P) (.node (o89 P) .nil .nil) .nil) (.node (o70 P) (.node (o107 P) .nil .nil) .nil)) (.node (o12 P) (.node (o0 P) (.node (o0 P) .nil .nil) .nil) (.node (o79 P) .nil .nil)))) (.node (o0 P) (.node (o8 P) (.node (o20 P) (.node (o1 P) (.node (o86 P) .nil .nil) .nil) (.node (o68 P) (.node (o1 P) .nil .nil) .nil)) (.node (o35 P) (.node (o0 P) (.node (o96 P) .nil .nil) .nil) (.node (o0 P) .nil .nil))) (.node (o15 P) (.node (o12 P) (.node (o52 P) (.node (o91 P) .nil .nil) .nil) (.node (o73 P) .nil .nil)) (.node (o42 P) (.node (o61 P) (.node (o0 P) .nil .nil) .nil) (.node (o1 P) .nil .nil))))) (.node (boot_o_5 P) (.node (boot_o_9 P) (.node (o7 P) (.node (o18 P) (.node (o47 P) (.node (o0 P) .nil .nil) .nil) (.node (o0 P) (.node (o104 P) .nil .nil) .nil)) (.node (o0 P) (.node (o1 P) (.node (o94 P) .nil .nil) .nil) (.node (o76 P) .nil .nil))) (.node (o0 P) (.node (o26 P) (.node (o0 P) (.node (o1 P) .nil .nil) .nil) (.node (o71 P) .nil .nil)) (.node (o0 P) (.node (o60 P) (.node (o99 P) .nil .nil) .nil) (.node (o81 P) .nil .nil)))) (.node (o2 P) (.node (o10 P) (.node (o22 P) (.node (o0 P) (.node (o87 P) .nil .nil) .nil) (.node (o0 P) (.node (o0 P) .nil .nil) .nil)) (.node (o37 P) (.node (o58 P) (.node (o1 P) .nil .nil) .nil) (.node (o78 P) .nil .nil))) (.node (o0 P) (.node (o0 P) (.node (o53 P) (.node (o0 P) .nil .nil) .nil) (.node (o1 P) .nil .nil)) (.node (o0 P) (.node (o63 P) (.node (o101 P) .nil .nil) .nil) (.node (o0 P) .nil .nil)))))) (.node (o4 P) (.node (boot_o_4 P) (.node (boot_o_8 P) (.node (o1 P) (.node (o0 P) (.node (o46 P) (.node (o85 P) .nil .nil) .nil) (.node (o66 P) (.node (o103 P) .nil .nil) .nil)) (.node (o33 P) (.node (o0 P) (.node (o0 P) .nil .nil) .nil) (.node (o75 P) .nil .nil))) (.node (o13 P) (.node (o25 P) (.node (o51 P) (.node (o0 P) .nil .nil) .nil) (.node (o0 P) (.node (o108 P) .nil .nil) .nil)) (.node (o41 P) (.node (o1 P) (.node (o98 P) .nil .nil) .nil) (.node (o80 P) .nil .nil)))) (.node (o65 P) (.node (o9 P) (.node (o21 P) (.node (o48 P) (.node (o0 P) .nil .nil) .nil) (.node (o69 P) (.node (o105 P) .nil .nil) .nil)) (.node (o36 P) (.node (o57 P) (.node (o0 P) .nil .nil) .nil) (.node (o1 P) .nil .nil))) (.node (o16 P) (.node (o31 P) (.node (o0 P) (.node (o92 P) .nil .nil) .nil) (.node (o0 P) .nil .nil)) (.node (o43 P) (.node (o62 P) (.node (o1 P) .nil .nil) .nil) (.node (o82 P) .nil .nil))))) (.node (boot_o_6 P) (.node (boot_o_10 P) (.node (o0 P) (.node (o19 P) (.node (o0 P) (.node (o1 P) .nil .nil) .nil) (.node (o67 P) (.node (o0 P) .nil .nil) .nil)) (.node (o34 P) (.node (o56 P) (.node (o95 P) .nil .nil) .nil) (.node (o77 P) .nil .nil))) (.node (o14 P) (.node (o30 P) (.node (o1 P) (.node (o90 P) .nil .nil) .nil) (.node (o72 P) .nil .nil)) (.node (o1 P) (.node (o0 P) (.node (o100 P) .nil .nil) .nil) (.node (o0 P) .nil .nil)))) (.node (o3 P) (.node (o11 P) (.node (o40 P) (.node (o49 P) (.node (o88 P) .nil .nil) .nil) (.node (o1 P) (.node (o106 P) .nil .nil) .nil)) (.node (o30 P) (.node (o59 P) (.node (o97 P) .nil .nil) .nil) (.node (o0 P) .nil .nil))) (.node (o1 P) (.node (o1 P) (.node (o54 P) (.node (o1 P) .nil .nil) .nil) (.node (o74 P) .nil .nil)) (.node (o44 P) (.node (o0 P) (.node (o0 P) .nil .nil) .nil) (.node (o83 P) .nil .nil)))))))
abbrev n4 : Nat := 169
abbrev k4 : Nat := 398
noncomputable def b3 : List Stmt := [pbF 14, pbF 15, pbF 16, pbF 17, pbF 18, pbF 19, pbF 20, pbF 21, pbF 22, pbF 23, pbF 24, pbF 25, pbF 26, pbF 27, pbF 28]
theorem p3 (w : World) (os : OsState) : segRunT treeTable pF w 11 (some (.ref 6)) 1 370 ⟨t3 w.params, n3, Life.mk, #[], {}, k3, os⟩ (piecesOf b3 envF cF ⟨25, 0, 27, 43⟩ [topFrame qF]) = some (.next, ⟨t4 w.params, n4, Life.mk, #[], {}, k4, os⟩, cF, ⟨82, 0, 83, 38⟩) := by
  rewrite [PySem.W.Fast.te10110043849684766642, PySem.W.Fast.te14364793385576792824]; kernel_rfl
noncomputable def t5 (P : Params) : BT := (.node (boot_o_0 P) (.node (boot_o_1 P) (.node (o109 P) (.node (boot_o_7 P) (.node (o0 P) (.node (o17 P) (.node (o45 P) (.node (o84 P) .nil .nil) (.node (o1 P) .nil .nil)) (.node (o1 P) (.node (o102 P) .nil .nil) .nil)) (.node (o32 P) (.node (o55 P) (.node (o93 P) .nil .nil) (.node (o0 P) .nil .nil)) (.node (o0 P) (.node (o114 P) .nil .nil) .nil))) (.node (o12 P) (.node (o24 P) (.node (o50 P) (.node (o89 P) .nil .nil) (.node (o129 P) .nil .nil)) (.node (o70 P) (.node (o107 P) .nil .nil) .nil)) (.node (o12 P) (.node (o0 P) (.node (o0 P) .nil .nil) (.node (o139 P) .nil .nil)) (.node (o79 P) (.node (o0 P) .nil .nil) .nil)))) (.node (o0 P) (.node (o8 P) (.node (o20 P) (.node (o1 P) (.node (o86 P) .nil .nil) (.node (o125 P) .nil .nil)) (.node (o68 P) (.node (o1 P) .nil .nil) .nil)) (.node (o35 P) (.node (o0 P) (.node (o96 P) .nil .nil) (.node (o0 P) .nil .nil)) (.node (o0 P) (.node (o0 P) .nil .nil) .nil))) (.node (o15 P) (.node (o12 P) (.node (o52 P) (.node (o91 P) .nil .nil) (.node (o133 P) .nil .nil)) (.node (o73 P) (.node (o111 P) .nil .nil) .nil)) (.node (o42 P) (.node (o61 P) (.node (o0 P) .nil .nil) .nil) (.node (o1 P) (.node (o120 P) .nil .nil) .nil))))) (.node (boot_o_5 P) (.node (boot_o_9 P) (.node (o7 P) (.node (o18 P) (.node (o47 P) (.node (o0 P) .nil .nil) (.node (o0 P) .nil .nil)) (.node (o0 P) (.node (o104 P) .nil .nil) .nil)) (.node (o0 P) (.node (o1 P) (.node (o94 P) .nil .nil) (.node (o136 P) .nil .nil)) (.node (o76 P) (.node (o12 P) .nil .nil) .nil))) (.node (o0 P) (.node (o26 P) (.node (o0 P) (.node (o1 P) .nil .nil) (.node (o131 P) .nil .nil)) (.node (o71 P) (.node (o0 P) .nil .nil) .nil)) (.node (o0 P) (.node (o60 P) (.node (o99 P) .nil .nil) (.node (o141 P) .nil .nil)) (.node (o81 P) (.node (o119 P) .nil .nil) .nil)))) (.node (o2 P) (.node (o10 P) (.node (o22 P) (.node (o0 P) (.node (o87 P) .nil .nil) (.node (o127 P) .nil .nil)) (.node (o0 P) (.node (o0 P) .nil .nil) .nil)) (.node (o37 P) (.node (o58 P) (.node (o1 P) .nil .nil) (.node (o138 P) .nil .nil)) (.node (o78 P) (.node (o117 P) .nil .nil) .nil))) (.node (o0 P) (.node (o0 P) (.node (o53 P) (.node (o0 P) .nil .nil) (.node (o1 P) .nil .nil)) (.node (o1 P) (.node (o112 P) .nil .nil) .nil)) (.node (o0 P) (.node (o63 P) (.node (o101 P) .nil .nil) .nil) (.node (o0 P) (.node (o122 P) .nil .nil) .nil)))))) (.node (o4 P) (.node (boot_o_4 P) (.node (boot_o_8 P) (.node (o1 P) (.node (o0 P) (.node (o46 P) (.node (o85 P) .nil .nil) (.node (o123 P) .nil .nil)) (.node (o66 P) (.node (o103 P) .nil .nil) .nil)) (.node (o33 P) (.node (o0 P) (.node (o0 P) .nil .nil) (.node (o135 P) .nil .nil)) (.node (o75 P) (.node (o0 P) .nil .nil) .nil))) (.node (o13 P) (.node (o25 P) (.node (o51 P) (.node (o0 P) .nil .nil) (.node (o130 P) .nil .nil)) (.node (o0 P) (.node (o108 P) .nil .nil) .nil)) (.node (o41 P) (.node (o1 P) (.node (o98 P) .nil .nil) (.node (o140 P) .nil .nil)) (.node (o80 P) (.node (o1 P) .nil .nil) .nil)))) (.node (o110 P) (.node (o9 P) (.node (o21 P) (.node (o48 P) (.node (o0 P) .nil .nil) (.node (o126 P) .nil .nil)) (.node (o69 P) (.node (o105 P) .nil .nil) .nil)) (.node (o36 P) (.node (o57 P) (.node (o0 P) .nil .nil) (.node (o1 P) .nil .nil)) (.node (o1 P) (.node (o116 P) .nil .nil) .nil))) (.node (o16 P) (.node (o31 P) (.node (o0 P) (.node (o92 P) .nil .nil) (.node (o0 P) .nil .nil)) (.node (o0 P) (.node (o0 P) .nil .nil) .nil)) (.node (o43 P) (.node (o62 P) (.node (o1 P) .nil .nil) .nil) (.node (o82 P) (.node (o121 P) .nil .nil) .nil))))) (.node (boot_o_6 P) (.node (boot_o_10 P) (.node (o0 P) (.node (o19 P) (.node (o0 P) (.node (o1 P) .nil .nil) (.node (o124 P) .nil .nil)) (.node (o67 P) (.node (o0 P) .nil .nil) .nil)) (.node (o34 P) (.node (o56 P) (.node (o95 P) .nil .nil) (.node (o137 P) .nil .nil)) (.node (o77 P) (.node (o115 P) .nil .nil) .nil))) (.node (o14 P) (.node (o30 P) (.node (o1 P) (.node (o90 P) .nil .nil) (.node (o132 P) .nil .nil)) (.node (o72 P) (.node (o1 P) .nil .nil) .nil)) (.node (o1 P) (.node (o0 P) (.node (o100 P) .nil .nil) .nil) (.node (o0 P) (.node (o0 P) .nil .nil) .nil)))) (.node (o3 P) (.node (o11 P) (.node (o40 P) (.node (o49 P) (.node (o88 P) .nil .nil) (.node (o128 P) .nil .nil)) (.node (o1 P) (.node (o106 P) .nil .nil) .nil)) (.node (o30 P) (.node (o59 P) (.node (o97 P) .nil .nil) (.node (o0 P) .nil .nil)) (.node (o0 P) (.node (o118 P) .nil .nil) .nil))) (.node (o1 P) (.node (o1 P) (.node (o54 P) (.node (o1 P) .nil .nil) (.node (o134 P) .nil .nil)) (.node (o74 P) (.node (o113 P) .nil .nil) .nil)) (.node (o44 P) (.node (o0 P) (.node (o0 P) .nil .nil) .nil) (.node (o83 P) (.node (o0 P) .nil .nil) .nil)))))))
abbrev n5 : Nat := 218
abbrev k5 : Nat := 477
noncomputable def b4 : List Stmt := [pbF 29, pbF 30, pbF 31, pbF 32, pbF 33]
theorem p4 (w : World) (os : OsState) : segRunT treeTable pF w 11 (some (.ref 6)) 1 370 ⟨t4 w.params, n4, Life.mk, #[], {}, k4, os⟩ (piecesOf b4 envF cF ⟨82, 0, 83, 38⟩ [topFrame qF]) = some (.next, ⟨t5 w.params, n5, Life.mk, #[], {}, k5, os⟩, cF, ⟨115, 0, 115, 8⟩) := by
  rewrite [PySem.W.Fast.te10110043849684766642, PySem.W.Fast.te14364793385576792824]; kernel_rfl
noncomputable def t6 (P : Params) : BT := (.node (boot_o_0 P) (.node (boot_o_1 P) (.node (o142 P) (.node (boot_o_7 P) (.node (o0 P) (.node (o17 P) (.node (o45 P) (.node (o84 P) .nil .nil) (.node (o1 P) .nil .nil)) (.node (o1 P) (.node (o102 P) .nil .nil) (.node (o146 P) .nil .nil))) (.node (o32 P) (.node (o55 P) (.node (o93 P) .nil .nil) (.node (o0 P) .nil .nil)) (.node (o0 P) (.node (o114 P) .nil .nil) (.node (o0 P) .nil .nil)))) (.node (o12 P) (.node (o24 P) (.node (o50 P) (.node (o89 P) .nil .nil) (.node (o129 P) .nil .nil)) (.node (o70 P) (.node (o107 P) .nil .nil) (.node (o151 P) .nil .nil))) (.node (o12 P) (.node (o0 P) (.node (o0 P) .nil .nil) (.node (o139 P) .nil .nil)) (.node (o79 P) (.node (o0 P) .nil .nil) (.node (o160 P) .nil .nil))))) (.node (o0 P) (.node (o8 P) (.node (o20 P) (.node (o1 P) (.node (o86 P) .nil .nil) (.node (o125 P) .nil .nil)) (.node (o68 P) (.node (o1 P) .nil .nil) (.node (o148 P) .nil .nil))) (.node (o35 P) (.node (o0 P) (.node (o96 P) .nil .nil) (.node (o0 P) .nil .nil)) (.node (o0 P) (.node (o0 P) .nil .nil) (.node (o158 P) .nil .nil)))) (.node (o15 P) (.node (o12 P) (.node (o52 P) (.node (o91 P) .nil .nil) (.node (o133 P) .nil .nil)) (.node (o73 P) (.node (o111 P) .nil .nil) (.node (o0 P) .nil .nil))) (.node (o42 P) (.node (o61 P) (.node (o0 P) .nil .nil) (.node (o1 P) .nil .nil)) (.node (o1 P) (.node (o120 P) .nil .nil) (.node (o162 P) .nil .nil)))))) (.node (boot_o_5 P) (.node (boot_o_9 P) (.node (o7 P) (.node (o18 P) (.node (o47 P) (.node (o0 P) .nil .nil) (.node (o0 P) .nil .nil)) (.node (o0 P) (.node (o104 P) .nil .nil) (.node (o0 P) .nil .nil))) (.node (o0 P) (.node (o1 P) (.node (o94 P) .nil .nil) (.node (o136 P) .nil .nil)) (.node (o76 P) (.node (o12 P) .nil .nil) (.node (o156 P) .nil .nil)))) (.node (o0 P) (.node (o26 P) (.node (o0 P) (.node (o1 P) .nil .nil) (.node (o131 P) .nil .nil)) (.node (o71 P) (.node (o0 P) .nil .nil) (.node (o1 P) .nil .nil))) (.node (o0 P) (.node (o60 P) (.node (o99 P) .nil .nil) (.node (o141 P) .nil .nil)) (.node (o81 P) (.node (o119 P) .nil .nil) (.node (o0 P) .nil .nil))))) (.node (o2 P) (.node (o10 P) (.node (o22 P) (.node (o0 P) (.node (o87 P) .nil .nil) (.node (o127 P) .nil .nil)) (.node (o0 P) (.node (o0 P) .nil .nil) (.node (o149 P) .nil .nil))) (.node (o37 P) (.node (o58 P) (.node (o1 P) .nil .nil) (.node (o138 P) .nil .nil)) (.node (o78 P) (.node (o117 P) .nil .nil) (.node (o1 P) .nil .nil)))) (.node (o0 P) (.node (o0 P) (.node (o53 P) (.node (o0 P) .nil .nil) (.node (o1 P) .nil .nil)) (.node (o1 P) (.node (o112 P) .nil .nil) (.node (o154 P) .nil .nil))) (.node (o0 P) (.node (o63 P) (.node (o101 P) .nil .nil) (.node (o0 P) .nil .nil)) (.node (o0 P) (.node (o122 P) .nil .nil) (.node (o164 P) .nil .nil))))))) (.node (o4 P) (.node (boot_o_4 P) (.node (boot_o_8 P) (.node (o1 P) (.node (o0 P) (.node (o46 P) (.node (o85 P) .nil .nil) (.node (o123 P) .nil .nil)) (.node (o66 P) (.node (o103 P) .nil .nil) (.node (o147 P) .nil .nil))) (.node (o33 P) (.node (o0 P) (.node (o0 P) .nil .nil) (.node (o135 P) .nil .nil)) (.node (o75 P) (.node (o0 P) .nil .nil) (.node (o1 P) .nil .nil)))) (.node (o13 P) (.node (o25 P) (.node (o51 P) (.node (o0 P) .nil .nil) (.node (o130 P) .nil .nil)) (.node (o0 P) (.node (o108 P) .nil .nil) (.node (o0 P) .nil .nil))) (.node (o41 P) (.node (o1 P) (.node (o98 P) .nil .nil) (.node (o140 P) .nil .nil)) (.node (o80 P) (.node (o1 P) .nil .nil) (.node (o161 P) .nil .nil))))) (.node (o143 P) (.node (o9 P) (.node (o21 P) (.node (o48 P) (.node (o0 P) .nil .nil) (.node (o126 P) .nil .nil)) (.node (o69 P) (.node (o105 P) .nil .nil) (.node (o0 P) .nil .nil))) (.node (o36 P) (.node (o57 P) (.node (o0 P) .nil .nil) (.node (o1 P) .nil .nil)) (.node (o1 P) (.node (o116 P) .nil .nil) (.node (o0 P) .nil .nil)))) (.node (o16 P) (.node (o31 P) (.node (o0 P) (.node (o92 P) .nil .nil) (.node (o0 P) .nil .nil)) (.node (o0 P) (.node (o0 P) .nil .nil) (.node (o153 P) .nil .nil))) (.node (o43 P) (.node (o62 P) (.node (o1 P) .nil .nil) (.node (o144 P) .nil .nil)) (.node (o82 P) (.node (o121 P) .nil .nil) (.node (o163 P) .nil .nil)))))) (.node (boot_o_6 P) (.node (boot_o_10 P) (.node (o0 P) (.node (o19 P) (.node (o0 P) (.node (o1 P) .nil .nil) (.node (o124 P) .nil .nil)) (.node (o67 P) (.node (o0 P) .nil .nil) (.node (o1 P) .nil .nil))) (.node (o34 P) (.node (o56 P) (.node (o95 P) .nil .nil) (.node (o137 P) .nil .nil)) (.node (o77 P) (.node (o115 P) .nil .nil) (.node (o157 P) .nil .nil)))) (.node (o14 P) (.node (o30 P) (.node (o1 P) (.node (o90 P) .nil .nil) (.node (o132 P) .nil .nil)) (.node (o72 P) (.node (o1 P) .nil .nil) (.node (o152 P) .nil .nil))) (.node (o1 P) (.node (o0 P) (.node (o100 P) .nil .nil) (.node (o0 P) .nil .nil)) (.node (o0 P) (.node (o0 P) .nil .nil) (.node (o1 P) .nil .nil))))) (.node (o3 P) (.node (o11 P) (.node (o40 P) (.node (o49 P) (.node (o88 P) .nil .nil) (.node (o128 P) .nil .nil)) (.node (o1 P) (.node (o106 P) .nil .nil) (.node (o150 P) .nil .nil))) (.node (o30 P) (.node (o59 P) (.node (o97 P) .nil .nil) (.node (o0 P) .nil .nil)) (.node (o0 P) (.node (o118 P) .nil .nil) (.node (o159 P) .nil .nil)))) (.node (o1 P) (.node (o1 P) (.node (o54 P) (.node (o1 P) .nil .nil) (.node (o134 P) .nil .nil)) (.node (o74 P) (.node (o113 P) .nil .nil) (.node (o155 P) .nil .nil))) (.node (o44 P) (.node (o0 P) (.node (o0 P) .nil .nil) (.node (o145 P) .nil .nil)) (.node (o83 P) (.node (o0 P) .nil .nil) .nil)))))))
abbrev n6 : Nat := 254
abbrev k6 : Nat := 535
noncomputable def b5 : List Stmt := [pbF 34, pbF 35, pbF 36, pbF 37, pbF 38, pbF 39, pbF 40]
theorem p5 (w : World) (os : OsState) : segRunT treeTable pF w 11 (some (.ref 6)) 1 192 ⟨t5 w.params, n5, Life.mk, #[], {}, k5, os⟩ (piecesOf b5 envF cF ⟨115, 0, 115, 8⟩ [topFrame qF]) = some (.next, ⟨t6 w.params, n6, Life.mk, #[], {}, k6, os⟩, cF, ⟨179, 0, 179, 8⟩) := by
  rewrite [PySem.W.Fast.te10110043849684766642, PySem.W.Fast.te14364793385576792824]; kernel_rfl
noncomputable def t7 (P : Params) : BT := (.node (boot_o_0 P) (.node (boot_o_1 P) (.node (o165 P) (.node (boot_o_7 P) (.node (o0 P) (.node (o17 P) (.node (o45 P) (.node (o84 P) (.node (o12 P) .nil .nil) .nil) (.node (o1 P) .nil .nil)) (.node (o1 P) (.node (o102 P) (.node (o185 P) .nil .nil) .nil) (.node (o146 P) .nil .nil))) (.node (o32 P) (.node (o55 P) (.node (o93 P) (.node (o0 P) .nil .nil) .nil) (.node (o0 P) .nil .nil)) (.node (o0 P) (.node (o114 P) (.node (o0 P) .nil .nil) .nil) (.node (o0 P) .nil .nil)))) (.node (o12 P) (.node (o24 P) (.node (o50 P) (.node (o89 P) (.node (o171 P) .nil .nil) .nil) (.node (o129 P) .nil .nil)) (.node (o70 P) (.node (o107 P) (.node (o190 P) .nil .nil) .nil) (.node (o151 P) .nil .nil))) (.node (o12 P) (.node (o0 P) (.node (o0 P) (.node (o180 P) .nil .nil) .nil) (.node (o139 P) .nil .nil)) (.node (o79 P) (.node (o0 P) (.node (o200 P) .nil .nil) .nil) (.node (o160 P) .nil .nil))))) (.node (o0 P) (.node (o8 P) (.node (o20 P) (.node (o1 P) (.node (o86 P) (.node (o169 P) .nil .nil) .nil) (.node (o125 P) .nil .nil)) (.node (o68 P) (.node (o1 P) (.node (o187 P) .nil .nil) .nil) (.node (o148 P) .nil .nil))) (.node (o35 P) (.node (o0 P) (.node (o96 P) (.node (o0 P) .nil .nil) .nil) (.node (o0 P) .nil .nil)) (.node (o0 P) (.node (o0 P) (.node (o196 P) .nil .nil) .nil) (.node (o158 P) .nil .nil)))) (.node (o15 P) (.node (o12 P) (.node (o52 P) (.node (o91 P) (.node (o174 P) .nil .nil) .nil) (.node (o133 P) .nil .nil)) (.node (o73 P) (.node (o111 P) (.node (o0 P) .nil .nil) .nil) (.node (o0 P) .nil .nil))) (.node (o42 P) (.node (o61 P) (.node (o0 P) (.node (o1 P) .nil .nil) .nil) (.node (o1 P) .nil .nil)) (.node (o1 P) (.node (o120 P) (.node (o204 P) .nil .nil) .nil) (.node (o162 P) .nil .nil)))))) (.node (boot_o_5 P) (.node (boot_o_9 P) (.node (o7 P) (.node (o18 P) (.node (o47 P) (.node (o0 P) (.node (o0 P) .nil .nil) .nil) (.node (o0 P) .nil .nil)) (.node (o0 P) (.node (o104 P) (.node (o0 P) .nil .nil) .nil) (.node (o0 P) .nil .nil))) (.node (o0 P) (.node (o1 P) (.node (o94 P) (.node (o177 P) .nil .nil) .nil) (.node (o136 P) .nil .nil)) (.node (o76 P) (.node (o12 P) (.node (o195 P) .nil .nil) .nil) (.node (o156 P) .nil .nil)))) (.node (o0 P) (.node (o26 P) (.node (o0 P) (.node (o1 P) (.node (o172 P) .nil .nil) .nil) (.node (o131 P) .nil .nil)) (.node (o71 P) (.node (o0 P) (.node (o1 P) .nil .nil) .nil) (.node (o1 P) .nil .nil))) (.node (o0 P) (.node (o60 P) (.node (o99 P) (.node (o182 P) .nil .nil) .nil) (.node (o141 P) .nil .nil)) (.node (o81 P) (.node (o119 P) (.node (o202 P) .nil .nil) .nil) (.node (o0 P) .nil .nil))))) (.node (o2 P) (.node (o10 P) (.node (o22 P) (.node (o0 P) (.node (o87 P) (.node (o0 P) .nil .nil) .nil) (.node (o127 P) .nil .nil)) (.node (o0 P) (.node (o0 P) (.node (o188 P) .nil .nil) .nil) (.node (o149 P) .nil .nil))) (.node (o37 P) (.node (o58 P) (.node (o1 P) (.node (o179 P) .nil .nil) .nil) (.node (o138 P) .nil .nil)) (.node (o78 P) (.node (o117 P) (.node (o198 P) .nil .nil) .nil) (.node (o1 P) .nil .nil)))) (.node (o0 P) (.node (o0 P) (.node (o53 P) (.node (o0 P) (.node (o1 P) .nil .nil) .nil) (.node (o1 P) .nil .nil)) (.node (o1 P) (.node (o112 P) (.node (o193 P) .nil .nil) .nil) (.node (o154 P) .nil .nil))) (.node (o0 P) (.node (o63 P) (.node (o101 P) (.node (o0 P) .nil .nil) .nil) (.node (o0 P) .nil .nil)) (.node (o0 P) (.node (o122 P) .nil .nil) (.node (o164 P) .nil .nil))))))) (.node (o4 P) (.node (boot_o_4 P) (.node (boot_o_8 P) (.node (o1 P) (.node (o0 P) (.node (o46 P) (.node (o85 P) (.node (o167 P) .nil .nil) .nil) (.node (o123 P) .nil .nil)) (.node (o66 P) (.node (o103 P) (.node (o186 P) .nil .nil) .nil) (.node (o147 P) .nil .nil))) (.node (o33 P) (.node (o0 P) (.node (o0 P) (.node (o176 P) .nil .nil) .nil) (.node (o135 P) .nil .nil)) (.node (o75 P) (.node (o0 P) (.node (o1 P) .nil .nil) .nil) (.node (o1 P) .nil .nil)))) (.node (o13 P) (.node (o25 P) (.node (o51 P) (.node (o0 P) (.node (o0 P) .nil .nil) .nil) (.node (o130 P) .nil .nil)) (.node (o0 P) (.node (o108 P) (.node (o0 P) .nil .nil) .nil) (.node (o0 P) .nil .nil))) (.node (o41 P) (.node (o1 P) (.node (o98 P) (.node (o181 P) .nil .nil) .nil) (.node (o140 P) .nil .nil)) (.node (o80 P) (.node (o1 P) (.node (o201 P) .nil .nil) .nil) (.node (o161 P) .nil .nil))))) (.node (o166 P) (.node (o9 P) (.node (o21 P) (.node (o48 P) (.node (o0 P) (.node (o170 P) .nil .nil) .nil) (.node (o126 P) .nil .nil)) (.node (o69 P) (.node (o105 P) (.node (o0 P) .nil .nil) .nil) (.node (o0 P) .nil .nil))) (.node (o36 P) (.node (o57 P) (.node (o0 P) (.node (o1 P) .nil .nil) .nil) (.node (o1 P) .nil .nil)) (.node (o1 P) (.node (o116 P) (.node (o197 P) .nil .nil) .nil) (.node (o0 P) .nil .nil)))) (.node (o16 P) (.node (o31 P) (.node (o0 P) (.node (o92 P) (.node (o0 P) .nil .nil) .nil) (.node (o0 P) .nil .nil)) (.node (o0 P) (.node (o0 P) (.node (o192 P) .nil .nil) .nil) (.node (o153 P) .nil .nil))) (.node (o43 P) (.node (o62 P) (.node (o1 P) (.node (o183 P) .nil .nil) .nil) (.node (o144 P) .nil .nil)) (.node (o82 P) (.node (o121 P) (.node (o205 P) .nil .nil) .nil) (.node (o163 P) .nil .nil)))))) (.node (boot_o_6 P) (.node (boot_o_10 P) (.node (o0 P) (.node (o19 P) (.node (o0 P) (.node (o1 P) (.node (o168 P) .nil .nil) .nil) (.node (o124 P) .nil .nil)) (.node (o67 P) (.node (o0 P) (.node (o1 P) .nil .nil) .nil) (.node (o1 P) .nil .nil))) (.node (o34 P) (.node (o56 P) (.node (o95 P) (.node (o178 P) .nil .nil) .nil) (.node (o137 P) .nil .nil)) (.node (o77 P) (.node (o115 P) (.node (o0 P) .nil .nil) .nil) (.node (o157 P) .nil .nil)))) (.node (o14 P) (.node (o30 P) (.node (o1 P) (.node (o90 P) (.node (o173 P) .nil .nil) .nil) (.node (o132 P) .nil .nil)) (.node (o72 P) (.node (o1 P) (.node (o191 P) .nil .nil) .nil) (.node (o152 P) .nil .nil))) (.node (o1 P) (.node (o0 P) (.node (o100 P) (.node (o0 P) .nil .nil) .nil) (.node (o0 P) .nil .nil)) (.node (o0 P) (.node (o0 P) (.node (o203 P) .nil .nil) .nil) (.node (o1 P) .nil .nil))))) (.node (o3 P) (.node (o11 P) (.node (o40 P) (.node (o49 P) (.node (o88 P) (.node (o1 P) .nil .nil) .nil) (.node (o128 P) .nil .nil)) (.node (o1 P) (.node (o106 P) (.node (o189 P) .nil .nil) .nil) (.node (o150 P) .nil .nil))) (.node (o30 P) (.node (o59 P) (.node (o97 P) (.node (o0 P) .nil .nil) .nil) (.node (o0 P) .nil .nil)) (.node (o0 P) (.node (o118 P) (.node (o199 P) .nil .nil) .nil) (.node (o159 P) .nil .nil)))) (.node (o1 P) (.node (o1 P) (.node (o54 P) (.node (o1 P) (.node (o175 P) .nil .nil) .nil) (.node (o134 P) .nil .nil)) (.node (o74 P) (.node (o113 P) (.node (o194 P) .nil .nil) .nil) (.node (o155 P) .nil .nil))) (.node (o44 P) (.node (o0 P) (.node (o0 P) (.node (o184 P) .nil .nil) .nil) (.node (o145 P) .nil .nil)) (.node (o83 P) (.node (o0 P) .nil .nil) (.node (o0 P) .nil .nil))))))))
abbrev n7 : Nat := 317
abbrev k7 : Nat := 612
noncomputable def b6 : List Stmt := [pbF 41]
theorem p6 (w : World) (os : OsState) : segRunT treeTable pF w 11 (some (.ref 6)) 1 415 ⟨t6 w.params, n6, Life.mk, #[], {}, k6, os⟩ (piecesOf b6 envF cF ⟨179, 0, 179, 8⟩ [topFrame qF]) = some (.next, ⟨t7 w.params, n7, Life.mk, #[], {}, k7, os⟩, cF, ⟨180, 0, 210, 16⟩) := by
  rewrite [PySem.W.Fast.te10110043849684766642, PySem.W.Fast.te14364793385576792824]; kernel_rfl
noncomputable def t8 (P : Params) : BT := (.node (boot_o_0 P) (.node (boot_o_1 P) (.node (o206 P) (.node (boot_o_7 P) (.node (o0 P) (.node (o17 P) (.node (o45 P) (.node (o84 P) (.node (o12 P) .nil .nil) (.node (o245 P) .nil .nil)) (.node (o1 P) (.node (o208 P) .nil .nil) .nil)) (.node (o1 P) (.node (o102 P) (.node (o185 P) .nil .nil) .nil) (.node (o146 P) (.node (o227 P) .nil .nil) .nil))) (.node (o32 P) (.node (o55 P) (.node (o93 P) (.node (o0 P) .nil .nil) .nil) (.node (o0 P) (.node (o217 P) .nil .nil) .nil)) (.node (o0 P) (.node (o114 P) (.node (o0 P) .nil .nil) .nil) (.node (o0 P) (.node (o0 P) .nil .nil) .nil)))) (.node (o12 P) (.node (o24 P) (.node (o50 P) (.node (o89 P) (.node (o171 P) .nil .nil) (.node (o250 P) .nil .nil)) (.node (o129 P) (.node (o0 P) .nil .nil) .nil)) (.node (o70 P) (.node (o107 P) (.node (o190 P) .nil .nil) .nil) (.node (o151 P) (.node (o231 P) .nil .nil) .nil))) (.node (o12 P) (.node (o0 P) (.node (o0 P) (.node (o180 P) .nil .nil) .nil) (.node (o139 P) (.node (o222 P) .nil .nil) .nil)) (.node (o79 P) (.node (o0 P) (.node (o200 P) .nil .nil) .nil) (.node (o160 P) (.node (o240 P) .nil .nil) .nil))))) (.node (o0 P) (.node (o8 P) (.node (o20 P) (.node (o1 P) (.node (o86 P) (.node (o169 P) .nil .nil) (.node (o247 P) .nil .nil)) (.node (o125 P) (.node (o211 P) .nil .nil) .nil)) (.node (o68 P) (.node (o1 P) (.node (o187 P) .nil .nil) .nil) (.node (o148 P) (.node (o229 P) .nil .nil) .nil))) (.node (o35 P) (.node (o0 P) (.node (o96 P) (.node (o0 P) .nil .nil) .nil) (.node (o0 P) (.node (o1 P) .nil .nil) .nil)) (.node (o0 P) (.node (o0 P) (.node (o196 P) .nil .nil) .nil) (.node (o158 P) (.node (o0 P) .nil .nil) .nil)))) (.node (o15 P) (.node (o12 P) (.node (o52 P) (.node (o91 P) (.node (o174 P) .nil .nil) .nil) (.node (o133 P) (.node (o0 P) .nil .nil) .nil)) (.node (o73 P) (.node (o111 P) (.node (o0 P) .nil .nil) .nil) (.node (o0 P) (.node (o234 P) .nil .nil) .nil))) (.node (o42 P) (.node (o61 P) (.node (o0 P) (.node (o1 P) .nil .nil) .nil) (.node (o1 P) (.node (o224 P) .nil .nil) .nil)) (.node (o1 P) (.node (o120 P) (.node (o204 P) .nil .nil) .nil) (.node (o162 P) (.node (o1 P) .nil .nil) .nil)))))) (.node (boot_o_5 P) (.node (boot_o_9 P) (.node (o7 P) (.node (o18 P) (.node (o47 P) (.node (o0 P) (.node (o0 P) .nil .nil) (.node (o0 P) .nil .nil)) (.node (o0 P) (.node (o209 P) .nil .nil) .nil)) (.node (o0 P) (.node (o104 P) (.node (o0 P) .nil .nil) .nil) (.node (o0 P) (.node (o1 P) .nil .nil) .nil))) (.node (o0 P) (.node (o1 P) (.node (o94 P) (.node (o177 P) .nil .nil) .nil) (.node (o136 P) (.node (o219 P) .nil .nil) .nil)) (.node (o76 P) (.node (o12 P) (.node (o195 P) .nil .nil) .nil) (.node (o156 P) (.node (o237 P) .nil .nil) .nil)))) (.node (o0 P) (.node (o26 P) (.node (o0 P) (.node (o1 P) (.node (o172 P) .nil .nil) .nil) (.node (o131 P) (.node (o214 P) .nil .nil) .nil)) (.node (o71 P) (.node (o0 P) (.node (o1 P) .nil .nil) .nil) (.node (o1 P) (.node (o232 P) .nil .nil) .nil))) (.node (o0 P) (.node (o60 P) (.node (o99 P) (.node (o182 P) .nil .nil) .nil) (.node (o141 P) (.node (o0 P) .nil .nil) .nil)) (.node (o81 P) (.node (o119 P) (.node (o202 P) .nil .nil) .nil) (.node (o0 P) (.node (o242 P) .nil .nil) .nil))))) (.node (o2 P) (.node (o10 P) (.node (o22 P) (.node (o0 P) (.node (o87 P) (.node (o0 P) .nil .nil) (.node (o248 P) .nil .nil)) (.node (o127 P) (.node (o1 P) .nil .nil) .nil)) (.node (o0 P) (.node (o0 P) (.node (o188 P) .nil .nil) .nil) (.node (o149 P) (.node (o0 P) .nil .nil) .nil))) (.node (o37 P) (.node (o58 P) (.node (o1 P) (.node (o179 P) .nil .nil) .nil) (.node (o138 P) (.node (o0 P) .nil .nil) .nil)) (.node (o78 P) (.node (o117 P) (.node (o198 P) .nil .nil) .nil) (.node (o1 P) (.node (o239 P) .nil .nil) .nil)))) (.node (o0 P) (.node (o0 P) (.node (o53 P) (.node (o0 P) (.node (o1 P) .nil .nil) .nil) (.node (o1 P) (.node (o216 P) .nil .nil) .nil)) (.node (o1 P) (.node (o112 P) (.node (o193 P) .nil .nil) .nil) (.node (o154 P) (.node (o1 P) .nil .nil) .nil))) (.node (o0 P) (.node (o63 P) (.node (o101 P) (.node (o0 P) .nil .nil) .nil) (.node (o0 P) (.node (o225 P) .nil .nil) .nil)) (.node (o0 P) (.node (o122 P) (.node (o0 P) .nil .nil) .nil) (.node (o164 P) (.node (o0 P) .nil .nil) .nil))))))) (.node (o4 P) (.node (boot_o_4 P) (.node (boot_o_8 P) (.node (o1 P) (.node (o0 P) (.node (o46 P) (.node (o85 P) (.node (o167 P) .nil .nil) (.node (o246 P) .nil .nil)) (.node (o123 P) (.node (o0 P) .nil .nil) .nil)) (.node (o66 P) (.node (o103 P) (.node (o186 P) .nil .nil) .nil) (.node (o147 P) (.node (o0 P) .nil .nil) .nil))) (.node (o33 P) (.node (o0 P) (.node (o0 P) (.node (o176 P) .nil .nil) .nil) (.node (o135 P) (.node (o218 P) .nil .nil) .nil)) (.node (o75 P) (.node (o0 P) (.node (o1 P) .nil .nil) .nil) (.node (o1 P) (.node (o236 P) .nil .nil) .nil)))) (.node (o13 P) (.node (o25 P) (.node (o51 P) (.node (o0 P) (.node (o0 P) .nil .nil) .nil) (.node (o130 P) (.node (o213 P) .nil .nil) .nil)) (.node (o0 P) (.node (o108 P) (.node (o0 P) .nil .nil) .nil) (.node (o0 P) (.node (o0 P) .nil .nil) .nil))) (.node (o41 P) (.node (o1 P) (.node (o98 P) (.node (o181 P) .nil .nil) .nil) (.node (o140 P) (.node (o223 P) .nil .nil) .nil)) (.node (o80 P) (.node (o1 P) (.node (o201 P) .nil .nil) .nil) (.node (o161 P) (.node (o241 P) .nil .nil) .nil))))) (.node (o207 P) (.node (o9 P) (.node (o21 P) (.node (o48 P) (.node (o0 P) (.node (o170 P) .nil .nil) (.node (o0 P) .nil .nil)) (.node (o126 P) (.node (o0 P) .nil .nil) .nil)) (.node (o69 P) (.node (o105 P) (.node (o0 P) .nil .nil) .nil) (.node (o0 P) (.node (o230 P) .nil .nil) .nil))) (.node (o36 P) (.node (o57 P) (.node (o0 P) (.node (o1 P) .nil .nil) .nil) (.node (o1 P) (.node (o220 P) .nil .nil) .nil)) (.node (o1 P) (.node (o116 P) (.node (o197 P) .nil .nil) .nil) (.node (o0 P) (.node (o1 P) .nil .nil) .nil)))) (.node (o16 P) (.node (o31 P) (.node (o0 P) (.node (o92 P) (.node (o0 P) .nil .nil) .nil) (.node (o0 P) (.node (o1 P) .nil .nil) .nil)) (.node (o0 P) (.node (o0 P) (.node (o192 P) .nil .nil) .nil) (.node (o153 P) (.node (o0 P) .nil .nil) .nil))) (.node (o43 P) (.node (o62 P) (.node (o1 P) (.node (o183 P) .nil .nil) .nil) (.node (o144 P) (.node (o0 P) .nil .nil) .nil)) (.node (o82 P) (.node (o121 P) (.node (o205 P) .nil .nil) .nil) (.node (o163 P) (.node (o243 P) .nil .nil) .nil)))))) (.node (boot_o_6 P) (.node (boot_o_10 P) (.node (o0 P) (.node (o19 P) (.node (o0 P) (.node (o1 P) (.node (o168 P) .nil .nil) (.node (o1 P) .nil .nil)) (.node (o124 P) (.node (o210 P) .nil .nil) .nil)) (.node (o67 P) (.node (o0 P) (.node (o1 P) .nil .nil) .nil) (.node (o1 P) (.node (o228 P) .nil .nil) .nil))) (.node (o34 P) (.node (o56 P) (.node (o95 P) (.node (o178 P) .nil .nil) .nil) (.node (o137 P) (.node (o0 P) .nil .nil) .nil)) (.node (o77 P) (.node (o115 P) (.node (o0 P) .nil .nil) .nil) (.node (o157 P) (.node (o238 P) .nil .nil) .nil)))) (.node (o14 P) (.node (o30 P) (.node (o1 P) (.node (o90 P) (.node (o173 P) .nil .nil) .nil) (.node (o132 P) (.node (o215 P) .nil .nil) .nil)) (.node (o72 P) (.node (o1 P) (.node (o191 P) .nil .nil) .nil) (.node (o152 P) (.node (o233 P) .nil .nil) .nil))) (.node (o1 P) (.node (o0 P) (.node (o100 P) (.node (o0 P) .nil .nil) .nil) (.node (o0 P) (.node (o1 P) .nil .nil) .nil)) (.node (o0 P) (.node (o0 P) (.node (o203 P) .nil .nil) .nil) (.node (o1 P) (.node (o0 P) .nil .nil) .nil))))) (.node (o3 P) (.node (o11 P) (.node (o40 P) (.node (o49 P) (.node (o88 P) (.node (o1 P) .nil .nil) (.node (o249 P) .nil .nil)) (.node (o128 P) (.node (o212 P) .nil .nil) .nil)) (.node (o1 P) (.node (o106 P) (.node (o189 P) .nil .nil) .nil) (.node (o150 P) (.node (o1 P) .nil .nil) .nil))) (.node (o30 P) (.node (o59 P) (.node (o97 P) (.node (o0 P) .nil .nil) .nil) (.node (o0 P) (.node (o221 P) .nil .nil) .nil)) (.node (o0 P) (.node (o118 P) (.node (o199 P) .nil .nil) .nil) (.node (o159 P) (.node (o0 P) .nil .nil) .nil)))) (.node (o1 P) (.node (o1 P) (.node (o54 P) (.node (o1 P) (.node (o175 P) .nil .nil) .nil) (.node (o134 P) (.node (o0 P) .nil .nil) .nil)) (.node (o74 P) (.node (o113 P) (.node (o194 P) .nil .nil) .nil) (.node (o155 P) (.node (o235 P) .nil .nil) .nil))) (.node (o44 P) (.node (o0 P) (.node (o0 P) (.node (o184 P) .nil .nil) .nil) (.node (o145 P) (.node (o226 P) .nil .nil) .nil)) (.node (o83 P) (.node (o0 P) (.node (o1 P) .nil .nil) .nil) (.node (o0 P) (.node (o244 P) .nil .nil) .nil))))))))
abbrev n8 : Nat := 392
abbrev k8 : Nat := 740
noncomputable def b7 : List Stmt := [pbF 42, pbF 43, pbF 44, pbF 45, pbF 46, pbF 47, pbF 48, pbF 49, pbF 50, pbF 51, pbF 52, pbF 53]
theorem p7 (w : World) (os : OsState) : segRunT treeTable pF w 11 (some (.ref 6)) 1 376 ⟨t7 w.params, n7, Life.mk, #[], {}, k7, os⟩ (piecesOf b7 envF cF ⟨180, 0, 210, 16⟩ [topFrame qF]) = some (.next, ⟨t8 w.params, n8, Life.mk, #[], {}, k8, os⟩, cF, ⟨283, 0, 290, 79⟩) := by
  rewrite [PySem.W.Fast.te10110043849684766642, PySem.W.Fast.te14364793385576792824]; kernel_rfl
noncomputable def t9 (P : Params) : BT := (.node (boot_o_0 P) (.node (boot_o_1 P) (.node (o251 P) (.node (boot_o_7 P) (.node (o0 P) (.node (o17 P) (.node (o45 P) (.node (o84 P) (.node (o12 P) .nil .nil) (.node (o245 P) .nil .nil)) (.node (o1 P) (.node (o208 P) .nil .nil) .nil)) (.node (o1 P) (.node (o102 P) (.node (o185 P) .nil .nil) .nil) (.node (o146 P) (.node (o227 P) .nil .nil) .nil))) (.node (o32 P) (.node (o55 P) (.node (o93 P) (.node (o0 P) .nil .nil) (.node (o256 P) .nil .nil)) (.node (o0 P) (.node (o217 P) .nil .nil) .nil)) (.node (o0 P) (.node (o114 P) (.node (o0 P) .nil .nil) .nil) (.node (o0 P) (.node (o0 P) .nil .nil) .nil)))) (.node (o12 P) (.node (o24 P) (.node (o50 P) (.node (o89 P) (.node (o171 P) .nil .nil) (.node (o250 P) .nil .nil)) (.node (o129 P) (.node (o0 P) .nil .nil) .nil)) (.node (o70 P) (.node (o107 P) (.node (o190 P) .nil .nil) .nil) (.node (o151 P) (.node (o231 P) .nil .nil) .nil))) (.node (o12 P) (.node (o0 P) (.node (o0 P) (.node (o180 P) .nil .nil) (.node (o261 P) .nil .nil)) (.node (o139 P) (.node (o222 P) .nil .nil) .nil)) (.node (o79 P) (.node (o0 P) (.node (o200 P) .nil .nil) .nil) (.node (o160 P) (.node (o240 P) .nil .nil) .nil))))) (.node (o0 P) (.node (o8 P) (.node (o20 P) (.node (o1 P) (.node (o86 P) (.node (o169 P) .nil .nil) (.node (o247 P) .nil .nil)) (.node (o125 P) (.node (o211 P) .nil .nil) .nil)) (.node (o68 P) (.node (o1 P) (.node (o187 P) .nil .nil) .nil) (.node (o148 P) (.node (o229 P) .nil .nil) .nil))) (.node (o35 P) (.node (o0 P) (.node (o96 P) (.node (o0 P) .nil .nil) (.node (o1 P) .nil .nil)) (.node (o0 P) (.node (o1 P) .nil .nil) .nil)) (.node (o0 P) (.node (o0 P) (.node (o196 P) .nil .nil) .nil) (.node (o158 P) (.node (o0 P) .nil .nil) .nil)))) (.node (o15 P) (.node (o12 P) (.node (o52 P) (.node (o91 P) (.node (o174 P) .nil .nil) (.node (o254 P) .nil .nil)) (.node (o133 P) (.node (o0 P) .nil .nil) .nil)) (.node (o73 P) (.node (o111 P) (.node (o0 P) .nil .nil) .nil) (.node (o0 P) (.node (o234 P) .nil .nil) .nil))) (.node (o42 P) (.node (o61 P) (.node (o0 P) (.node (o1 P) .nil .nil) .nil) (.node (o1 P) (.node (o224 P) .nil .nil) .nil)) (.node (o1 P) (.node (o120 P) (.node (o204 P) .nil .nil) .nil) (.node (o162 P) (.node (o1 P) .nil .nil) .nil)))))) (.node (boot_o_5 P) (.node (boot_o_9 P) (.node (o7 P) (.node (o18 P) (.node (o47 P) (.node (o0 P) (.node (o0 P) .nil .nil) (.node (o0 P) .nil .nil)) (.node (o0 P) (.node (o209 P) .nil .nil) .nil)) (.node (o0 P) (.node (o104 P) (.node (o0 P) .nil .nil) .nil) (.node (o0 P) (.node (o1 P) .nil .nil) .nil))) (.node (o0 P) (.node (o1 P) (.node (o94 P) (.node (o177 P) .nil .nil) (.node (o258 P) .nil .nil)) (.node (o136 P) (.node (o219 P) .nil .nil) .nil)) (.node (o76 P) (.node (o12 P) (.node (o195 P) .nil .nil) .nil) (.node (o156 P) (.node (o237 P) .nil .nil) .nil)))) (.node (o0 P) (.node (o26 P) (.node (o0 P) (.node (o1 P) (.node (o172 P) .nil .nil) (.node (o1 P) .nil .nil)) (.node (o131 P) (.node (o214 P) .nil .nil) .nil)) (.node (o71 P) (.node (o0 P) (.node (o1 P) .nil .nil) .nil) (.node (o1 P) (.node (o232 P) .nil .nil) .nil))) (.node (o0 P) (.node (o60 P) (.node (o99 P) (.node (o182 P) .nil .nil) .nil) (.node (o141 P) (.node (o0 P) .nil .nil) .nil)) (.node (o81 P) (.node (o119 P) (.node (o202 P) .nil .nil) .nil) (.node (o0 P) (.node (o242 P) .nil .nil) .nil))))) (.node (o2 P) (.node (o10 P) (.node (o22 P) (.node (o0 P) (.node (o87 P) (.node (o0 P) .nil .nil) (.node (o248 P) .nil .nil)) (.node (o127 P) (.node (o1 P) .nil .nil) .nil)) (.node (o0 P) (.node (o0 P) (.node (o188 P) .nil .nil) .nil) (.node (o149 P) (.node (o0 P) .nil .nil) .nil))) (.node (o37 P) (.node (o58 P) (.node (o1 P) (.node (o179 P) .nil .nil) (.node (o0 P) .nil .nil)) (.node (o138 P) (.node (o0 P) .nil .nil) .nil)) (.node (o78 P) (.node (o117 P) (.node (o198 P) .nil .nil) .nil) (.node (o1 P) (.node (o239 P) .nil .nil) .nil)))) (.node (o0 P) (.node (o0 P) (.node (o53 P) (.node (o0 P) (.node (o1 P) .nil .nil) (.node (o0 P) .nil .nil)) (.node (o1 P) (.node (o216 P) .nil .nil) .nil)) (.node (o1 P) (.node (o112 P) (.node (o193 P) .nil .nil) .nil) (.node (o154 P) (.node (o1 P) .nil .nil) .nil))) (.node (o0 P) (.node (o63 P) (.node (o101 P) (.node (o0 P) .nil .nil) .nil) (.node (o0 P) (.node (o225 P) .nil .nil) .nil)) (.node (o0 P) (.node (o122 P) (.node (o0 P) .nil .nil) .nil) (.node (o164 P) (.node (o0 P) .nil .nil) .nil))))))) (.node (o4 P) (.node (boot_o_4 P) (.node (boot_o_8 P) (.node (o1 P) (.node (o0 P) (.node (o46 P) (.node (o85 P) (.node (o167 P) .nil .nil) (.node (o246 P) .nil .nil)) (.node (o123 P) (.node (o0 P) .nil .nil) .nil)) (.node (o66 P) (.node (o103 P) (.node (o186 P) .nil .nil) .nil) (.node (o147 P) (.node (o0 P) .nil .nil) .nil))) (.node (o33 P) (.node (o0 P) (.node (o0 P) (.node (o176 P) .nil .nil) (.node (o257 P) .nil .nil)) (.node (o135 P) (.node (o218 P) .nil .nil) .nil)) (.node (o75 P) (.node (o0 P) (.node (o1 P) .nil .nil) .nil) (.node (o1 P) (.node (o236 P) .nil .nil) .nil)))) (.node (o13 P) (.node (o25 P) (.node (o51 P) (.node (o0 P) (.node (o0 P) .nil .nil) (.node (o0 P) .nil .nil)) (.node (o130 P) (.node (o213 P) .nil .nil) .nil)) (.node (o0 P) (.node (o108 P) (.node (o0 P) .nil .nil) .nil) (.node (o0 P) (.node (o0 P) .nil .nil) .nil))) (.node (o41 P) (.node (o1 P) (.node (o98 P) (.node (o181 P) .nil .nil) (.node (o262 P) .nil .nil)) (.node (o140 P) (.node (o223 P) .nil .nil) .nil)) (.node (o80 P) (.node (o1 P) (.node (o201 P) .nil .nil) .nil) (.node (o161 P) (.node (o241 P) .nil .nil) .nil))))) (.node (o252 P) (.node (o9 P) (.node (o21 P) (.node (o48 P) (.node (o0 P) (.node (o170 P) .nil .nil) (.node (o0 P) .nil .nil)) (.node (o126 P) (.node (o0 P) .nil .nil) .nil)) (.node (o69 P) (.node (o105 P) (.node (o0 P) .nil .nil) .nil) (.node (o0 P) (.node (o230 P) .nil .nil) .nil))) (.node (o36 P) (.node (o57 P) (.node (o0 P) (.node (o1 P) .nil .nil) (.node (o259 P) .nil .nil)) (.node (o1 P) (.node (o220 P) .nil .nil) .nil)) (.node (o1 P) (.node (o116 P) (.node (o197 P) .nil .nil) .nil) (.node (o0 P) (.node (o1 P) .nil .nil) .nil)))) (.node (o16 P) (.node (o31 P) (.node (o0 P) (.node (o92 P) (.node (o0 P) .nil .nil) (.node (o255 P) .nil .nil)) (.node (o0 P) (.node (o1 P) .nil .nil) .nil)) (.node (o0 P) (.node (o0 P) (.node (o192 P) .nil .nil) .nil) (.node (o153 P) (.node (o0 P) .nil .nil) .nil))) (.node (o43 P) (.node (o62 P) (.node (o1 P) (.node (o183 P) .nil .nil) .nil) (.node (o144 P) (.node (o0 P) .nil .nil) .nil)) (.node (o82 P) (.node (o121 P) (.node (o205 P) .nil .nil) .nil) (.node (o163 P) (.node (o243 P) .nil .nil) .nil)))))) (.node (boot_o_6 P) (.node (boot_o_10 P) (.node (o0 P) (.node (o19 P) (.node (o0 P) (.node (o1 P) (.node (o168 P) .nil .nil) (.node (o1 P) .nil .nil)) (.node (o124 P) (.node (o210 P) .nil .nil) .nil)) (.node (o67 P) (.node (o0 P) (.node (o1 P) .nil .nil) .nil) (.node (o1 P) (.node (o228 P) .nil .nil) .nil))) (.node (o34 P) (.node (o56 P) (.node (o95 P) (.node (o178 P) .nil .nil) (.node (o0 P) .nil .nil)) (.node (o137 P) (.node (o0 P) .nil .nil) .nil)) (.node (o77 P) (.node (o115 P) (.node (o0 P) .nil .nil) .nil) (.node (o157 P) (.node (o238 P) .nil .nil) .nil)))) (.node (o14 P) (.node (o30 P) (.node (o1 P) (.node (o90 P) (.node (o173 P) .nil .nil) (.node (o253 P) .nil .nil)) (.node (o132 P) (.node (o215 P) .nil .nil) .nil)) (.node (o72 P) (.node (o1 P) (.node (o191 P) .nil .nil) .nil) (.node (o152 P) (.node (o233 P) .nil .nil) .nil))) (.node (o1 P) (.node (o0 P) (.node (o100 P) (.node (o0 P) .nil .nil) .nil) (.node (o0 P) (.node (o1 P) .nil .nil) .nil)) (.node (o0 P) (.node (o0 P) (.node (o203 P) .nil .nil) .nil) (.node (o1 P) (.node (o0 P) .nil .nil) .nil))))) (.node (o3 P) (.node (o11 P) (.node (o40 P) (.node (o49 P) (.node (o88 P) (.node (o1 P) .nil .nil) (.node (o249 P) .nil .nil)) (.node (o128 P) (.node (o212 P) .nil .nil) .nil)) (.node (o1 P) (.node (o106 P) (.node (o189 P) .nil .nil) .nil) (.node (o150 P) (.node (o1 P) .nil .nil) .nil))) (.node (o30 P) (.node (o59 P) (.node (o97 P) (.node (o0 P) .nil .nil) (.node (o260 P) .nil .nil)) (.node (o0 P) (.node (o221 P) .nil .nil) .nil)) (.node (o0 P) (.node (o118 P) (.node (o199 P) .nil .nil) .nil) (.node (o159 P) (.node (o0 P) .nil .nil) .nil)))) (.node (o1 P) (.node (o1 P) (.node (o54 P) (.node (o1 P) (.node (o175 P) .nil .nil) (.node (o1 P) .nil .nil)) (.node (o134 P) (.node (o0 P) .nil .nil) .nil)) (.node (o74 P) (.node (o113 P) (.node (o194 P) .nil .nil) .nil) (.node (o155 P) (.node (o235 P) .nil .nil) .nil))) (.node (o44 P) (.node (o0 P) (.node (o0 P) (.node (o184 P) .nil .nil) .nil) (.node (o145 P) (.node (o226 P) .nil .nil) .nil)) (.node (o83 P) (.node (o0 P) (.node (o1 P) .nil .nil) .nil) (.node (o0 P) (.node (o244 P) .nil .nil) .nil))))))))
abbrev n9 : Nat := 409
abbrev k9 : Nat := 761
noncomputable def b8 : List Stmt := [pbF 54, pbF 55, pbF 56]
theorem p8 (w : World) (os : OsState) : segRunT treeTable pF w 11 (some (.ref 6)) 1 84 ⟨t8 w.params, n8, Life.mk, #[], {}, k8, os⟩ (piecesOf b8 envF cF ⟨283, 0, 290, 79⟩ [topFrame qF]) = some (.next, ⟨t9 w.params, n9, Life.mk, #[], {}, k9, os⟩, cF, ⟨307, 0, 314, 103⟩) := by
  rewrite [PySem.W.Fast.te10110043849684766642, PySem.W.Fast.te14364793385576792824]; kernel_rfl
noncomputable def hZ (P : Params) : Heap := ⟨⟨[boot_o_0 P, boot_o_1 P, o4 P, o251 P, boot_o_4 P, boot_o_5 P, boot_o_6 P, boot_o_7 P, boot_o_8 P, boot_o_9 P, boot_o_10 P, o0 P, o252 P, o2 P, o3 P, o0 P, o1 P, o7 P, o0 P, o8 P, o9 P, o10 P, o11 P, o12 P, o13 P, o0 P, o14 P, o15 P, o16 P, o0 P, o1 P, o17 P, o0 P, o18 P, o19 P, o20 P, o21 P, o22 P, o40 P, o24 P, o25 P, o26 P, o30 P, o12 P, o31 P, o0 P, o1 P, o32 P, o33 P, o0 P, o34 P, o35 P, o36 P, o37 P, o30 P, o12 P, o41 P, o0 P, o1 P, o42 P, o43 P, o0 P, o44 P, o45 P, o46 P, o47 P, o0 P, o1 P, o48 P, o0 P, o49 P, o50 P, o51 P, o0 P, o1 P, o52 P, o0 P, o53 P, o54 P, o55 P, o0 P, o1 P, o56 P, o0 P, o57 P, o58 P, o59 P, o0 P, o1 P, o60 P, o0 P, o61 P, o62 P, o63 P, o0 P, o1 P, o66 P, o0 P, o67 P, o68 P, o69 P, o0 P, o1 P, o70 P, o0 P, o71 P, o72 P, o73 P, o0 P, o1 P, o74 P, o0 P, o75 P, o76 P, o77 P, o0 P, o1 P, o78 P, o0 P, o79 P, o80 P, o81 P, o0 P, o1 P, o82 P, o0 P, o83 P, o84 P, o85 P, o0 P, o1 P, o86 P, o0 P, o87 P, o88 P, o89 P, o0 P, o1 P, o90 P, o91 P, o92 P, o0 P, o1 P, o93 P, o0 P, o94 P, o95 P, o96 P, o0 P, o1 P, o97 P, o0 P, o98 P, o99 P, o100 P, o0 P, o1 P, o101 P, o0 P, o102 P, o103 P, o104 P, o0 P, o1 P, o105 P, o0 P, o106 P, o107 P, o108 P, o0 P, o1 P, o111 P, o0 P, o112 P, o113 P, o114 P, o0 P, o12 P, o115 P, o0 P, o116 P, o117 P, o118 P, o0 P, o1 P, o119 P, o0 P, o120 P, o121 P, o122 P, o0 P, o1 P, o123 P, o0 P, o124 P, o125 P, o126 P, o127 P, o128 P, o129 P, o130 P, o131 P, o132 P, o133 P, o0 P, o1 P, o134 P, o0 P, o135 P, o136 P, o137 P, o0 P, o1 P, o138 P, o0 P, o139 P, o140 P, o141 P, o0 P, o1 P, o144 P, o0 P, o145 P, o146 P, o147 P, o0 P, o1 P, o148 P, o0 P, o149 P, o150 P, o151 P, o0 P, o1 P, o152 P, o0 P, o153 P, o154 P, o155 P, o0 P, o1 P, o156 P, o157 P, o158 P, o0 P, o1 P, o159 P, o160 P, o161 P, o0 P, o1 P, o162 P, o163 P, o164 P, o0 P, o12 P, o167 P, o0 P, o168 P, o169 P, o170 P, o0 P, o1 P, o171 P, o0 P, o172 P, o173 P, o174 P, o0 P, o1 P, o175 P, o0 P, o176 P, o177 P, o178 P, o0 P, o1 P, o179 P, o0 P, o180 P, o181 P, o182 P, o0 P, o1 P, o183 P, o0 P, o184 P, o185 P, o186 P, o0 P, o1 P, o187 P, o0 P, o188 P, o189 P, o190 P, o0 P, o1 P, o191 P, o0 P, o192 P, o193 P, o194 P, o0 P, o1 P, o195 P, o0 P, o196 P, o197 P, o198 P, o199 P, o200 P, o201 P, o202 P, o203 P, o204 P, o205 P, o0 P, o1 P, o208 P, o0 P, o209 P, o210 P, o211 P, o0 P, o1 P, o212 P, o0 P, o213 P, o214 P, o215 P, o0 P, o1 P, o216 P, o0 P, o217 P, o218 P, o219 P, o0 P, o1 P, o220 P, o0 P, o221 P, o222 P, o223 P, o0 P, o1 P, o224 P, o0 P, o225 P, o226 P, o227 P, o0 P, o1 P, o228 P, o229 P, o230 P, o0 P, o1 P, o231 P, o0 P, o232 P, o233 P, o234 P, o0 P, o1 P, o235 P, o0 P, o236 P, o237 P, o238 P, o0 P, o1 P, o239 P, o0 P, o240 P, o241 P, o242 P, o0 P, o1 P, o243 P, o0 P, o244 P, o245 P, o246 P, o0 P, o1 P, o247 P, o0 P, o248 P, o249 P, o250 P, o0 P, o1 P, o253 P, o254 P, o255 P, o0 P, o1 P, o256 P, o257 P, o258 P, o0 P, o1 P, o259 P, o0 P, o260 P, o261 P, o262 P]⟩, Life.mk⟩
abbrev kZ : Nat := 761
-- fin pos ⟨307, 0, 314, 103⟩ steps 1 pre pos ⟨0, 0, 0, 0⟩ steps 12 block ⟨0, 0, 0, 0⟩ 0 q ⟨0, 0, 0, 0⟩

theorem pre (w : World) (os : OsState) : topGo treeTable pF w 11 (some (.ref 6)) 12 ⟨boot_heap w.params, Array.mk [], boot_drawn, boot_toks, os⟩ (topStub pF) =
    some (⟨hA w.params, #[], {}, kA, os⟩, ⟨denote treeTable cF, cF, ⟨0, 0, 0, 0⟩, [topFrame qF]⟩) := by
  rewrite [PySem.W.Fast.te15667345088766844465, PySem.W.Fast.te14364793385576792824, PySem.W.Fast.te11892475500146522536]; kernel_rfl
theorem block (w : World) (os : OsState) : segRun treeTable pF w 11 (some (.ref 6)) 1 1 ⟨hA w.params, #[], {}, kA, os⟩ (blockOf (behindTheImports pF) envF cF ⟨0, 0, 0, 0⟩ [topFrame qF]) =
    some (.next, SharedT.abs ⟨t0 w.params, n0, Life.mk, #[], {}, k0, os⟩, cF, ⟨0, 0, 0, 0⟩) := by
  rewrite [PySem.W.Fast.te14374325043358763698, PySem.W.Fast.te14364793385576792824]; kernel_rfl
theorem fin (w : World) (os : OsState) : topRun treeTable pF w 11 (some (.ref 6)) 2 (SharedT.abs ⟨t9 w.params, n9, Life.mk, #[], {}, k9, os⟩) ⟨doneF .next, cF, ⟨307, 0, 314, 103⟩, [topFrame qF]⟩ =
    some ⟨hZ w.params, #[], {}, kZ, os⟩ := by
  rewrite [PySem.W.Fast.te14082659384304107361, PySem.W.Fast.te14364793385576792824]; kernel_rfl
theorem cells : behindTheImports pF = b0 ++ (b1 ++ (b2 ++ (b3 ++ (b4 ++ (b5 ++ (b6 ++ (b7 ++ (b8 ++ ([] : List Stmt))))))))) := by kernel_rfl
theorem run (w : World) (os : OsState) : topRun treeTable pF w 11 (some (.ref 6)) (12 + (1 + (267 + (214 + (381 + (370 + (370 + (192 + (415 + (376 + (84 + 2))))))))))) ⟨boot_heap w.params, Array.mk [], boot_drawn, boot_toks, os⟩ (topStub pF) = some ⟨hZ w.params, #[], {}, kZ, os⟩ := by
  refine go_top (pre w os) (piece_block (block w os) ?_)
  rewrite [cells]
  exact piece_app (segRun_of (p0 w os)) (piece_app (segRun_of (p1 w os)) (piece_app (segRun_of (p2 w os)) (piece_app (segRun_of (p3 w os)) (piece_app (segRun_of (p4 w os)) (piece_app (segRun_of (p5 w os)) (piece_app (segRun_of (p6 w os)) (piece_app (segRun_of (p7 w os)) (piece_app (segRun_of (p8 w os)) (piece_nil (fin w os))))))))))
end Mine
end
section
open PySem PySem.W PyProof.Rows
namespace Mine
noncomputable def K (P : Params) : Frag := [(21, o10 P), (72, o51 P), (79, o55 P), (86, o59 P), (93, o63 P), (100, o69 P), (107, o73 P), (114, o77 P), (121, o81 P), (128, o85 P), (135, o89 P), (140, o92 P), (147, o96 P), (154, o100 P), (161, o104 P), (168, o108 P), (175, o114 P), (189, o122 P), (196, o126 P), (199, o129 P), (210, o137 P), (217, o141 P), (224, o147 P), (231, o151 P), (238, o155 P), (243, o158 P), (248, o161 P), (253, o164 P), (267, o174 P), (274, o178 P), (281, o182 P), (288, o186 P), (295, o190 P), (302, o194 P), (309, o198 P), (312, o201 P), (323, o211 P), (330, o215 P), (337, o219 P), (344, o223 P), (351, o227 P), (356, o230 P), (363, o234 P), (370, o238 P), (377, o242 P), (384, o246 P), (391, o250 P), (396, o255 P), (401, o258 P), (408, o262 P), (3, o251 P), (20, o9 P), (71, o50 P), (78, o54 P), (85, o58 P), (92, o62 P), (99, o68 P), (106, o72 P), (113, o76 P), (120, o80 P), (127, o84 P), (134, o88 P), (139, o91 P), (146, o95 P), (153, o99 P), (160, o103 P), (167, o107 P), (174, o113 P), (188, o121 P), (195, o125 P), (198, o128 P), (209, o136 P), (216, o140 P), (223, o146 P), (230, o150 P), (237, o154 P), (242, o157 P), (247, o160 P), (252, o163 P), (266, o173 P), (273, o177 P), (280, o181 P), (287, o185 P), (294, o189 P), (301, o193 P), (308, o197 P), (311, o200 P), (322, o210 P), (329, o214 P), (336, o218 P), (343, o222 P), (350, o226 P), (355, o229 P), (362, o233 P), (369, o237 P), (376, o241 P), (383, o245 P), (390, o249 P), (395, o254 P), (400, o257 P), (407, o261 P)]
def kAs : List Addr := [21, 72, 79, 86, 93, 100, 107, 114, 121, 128, 135, 140, 147, 154, 161, 168, 175, 189, 196, 199, 210, 217, 224, 231, 238, 243, 248, 253, 267, 274, 281, 288, 295, 302, 309, 312, 323, 330, 337, 344, 351, 356, 363, 370, 377, 384, 391, 396, 401, 408, 3, 20, 71, 78, 85, 92, 99, 106, 113, 120, 127, 134, 139, 146, 153, 160, 167, 174, 188, 195, 198, 209, 216, 223, 230, 237, 242, 247, 252, 266, 273, 280, 287, 294, 301, 308, 311, 322, 329, 336, 343, 350, 355, 362, 369, 376, 383, 390, 395, 400, 407]
noncomputable def qv : Program := { pF with main := { pF.main with body := [pbF 0, pbF 2, pbF 3, pbF 4, pbF 5, pbF 7, pbF 8, pbF 9, pbF 10, pbF 11, pbF 12, pbF 13, pbF 14, pbF 15, pbF 16, pbF 17, pbF 19, pbF 20, pbF 22, pbF 23, pbF 24, pbF 25, pbF 26, pbF 27, pbF 28, pbF 29, pbF 30, pbF 31, pbF 32, pbF 34, pbF 35, pbF 36, pbF 37, pbF 38, pbF 39, pbF 41, pbF 43, pbF 44, pbF 45, pbF 46, pbF 47, pbF 48, pbF 49, pbF 50, pbF 51, pbF 52, pbF 53, pbF 54, pbF 55, pbF 56] } }
abbrev loose : List Str := [Str.ofString "WORD"]
abbrev lv : List (Str × WData) := [(Str.ofString "WORD", WData.int 18446744073709551616)]
abbrev rr := PySem.Challenge.rw_xw0236_01.row
noncomputable abbrev Xt (s : Shared) : Bool := xlAt qv lv s && recOk (RowW.records rr.toRowW) s
noncomputable abbrev Yf (s : Shared) : List (Option Obj) := kAs.map s.heap.get?
noncomputable abbrev Ya (w : World) : List (Option Obj) := (K w.params).map fun p => some p.2
noncomputable abbrev sZ (w : World) (os : OsState) : Shared := ⟨hZ w.params, #[], {}, kZ, os⟩
theorem opened : ∀ w : World, (fencedOpening treeTable pF w 5446).map (fun s => (s.heap, s.gens, s.drawn, s.toks)) = some (boot_heap w.params, Array.mk [], boot_drawn, boot_toks) :=
  boot_open (by kernel_rfl) (by rfl) (fun s => by kernel_rfl)
theorem sized (w : World) : ((boot_heap w.params).isNs mainGlobals && (Array.mk ([] : List GenState)).size == 0, (boot_heap w.params).objs.size, (boot_heap w.params).nsMap mainGlobals "__annotations__") = (true, 11, some (.ref 6)) := by
  rewrite [PySem.W.Fast.te8920871248978507458]; kernel_rfl
theorem look1 (w : World) (os : OsState) : (staticsOk (importedModules pF.main.body) (boot_heap w.params) (hZ w.params) && namesBound pF (hZ w.params) && gensDone (sZ w os) && laidKept (boot_heap w.params) (hZ w.params)) = true := by
  rewrite [PySem.W.Fast.te5923862056798008813]; kernel_rfl
theorem look3 (w : World) (os : OsState) : Yf (sZ w os) = Ya w := by kernel_rfl
theorem look2_0 (w : World) (os : OsState) : seen ((recsOf qv).map (·.name)) (ownsOf qv) [] { sZ w os with gens := #[] } = expectedOf qv := by
  rewrite [PySem.W.Fast.te5160383126252970620, PySem.W.Fast.te3399658132070893891, PySem.W.Fast.te5991557255702980513]; kernel_rfl
theorem look2_1 (w : World) (os : OsState) : (sZ w os).heap.bltView = bltViewBooted := by
  kernel_rfl
theorem look2_2 (w : World) (os : OsState) : ((sZ w os).heap.keysOk (looseW qv loose) ((recsOf qv).map (·.name)) ((litsOf qv).map (·.1)) ((clssOf qv (looseW qv loose)).map (·.name)) && (sZ w os).heap.accountedOkI (importedModules pF.main.body) && (sZ w os).heap.isNs mainGlobals && (sZ w os).heap.isNs builtinsNs && tablesOk qv (sZ w os).heap && Xt (sZ w os) && (if true then (sZ w os).gens.size == 0 else !leftWithCleanup (sZ w os).gens)) = true := by
  rewrite [PySem.W.Fast.te10880121769531294198, PySem.W.Fast.te821141287760084731, PySem.W.Fast.te3399658132070893891, PySem.W.Fast.te7409074990110511671, PySem.W.Fast.te13664370479719496447, PySem.W.Fast.te14722251495701143533, PySem.W.Fast.te10994771534591457954, PySem.W.Fast.te5923862056798008813]; kernel_rfl
theorem look2_3 (w : World) (os : OsState) : tabsOk qv (sZ w os) = true := by
  rewrite [PySem.W.Fast.te479339242167458305]; kernel_rfl
theorem look2_4 (w : World) (os : OsState) : pinSeenD qv (drecsOf qv) (sZ w os) = pinGoodD (drecsOf qv) := by
  rewrite [PySem.W.Fast.te16090120013241838585, PySem.W.Fast.te3247288618530077131]; kernel_rfl
theorem look2_5 (w : World) (os : OsState) : plainSeenE qv (looseW qv loose) (sZ w os) = plainGoodE qv (looseW qv loose) := by
  rewrite [PySem.W.Fast.te2386780881361962483, PySem.W.Fast.te821141287760084731]; kernel_rfl
theorem look2_6 (w : World) (os : OsState) : plainSeenD qv loose (sZ w os) = plainGoodD qv loose := by
  rewrite [PySem.W.Fast.te11698064438423848299]; kernel_rfl
theorem look2_7 (w : World) (os : OsState) : wideSeen qv (sZ w os) = wideGood qv := by
  rewrite [PySem.W.Fast.te7317090234206586261]; kernel_rfl
theorem look2_8 (w : World) (os : OsState) : clsSeenW qv loose (sZ w os) = clsGoodW qv loose := by
  rewrite [PySem.W.Fast.te7369524293546568484]; kernel_rfl
theorem look2 (w : World) (os : OsState) : openSeen qv loose (importedModules pF.main.body) Xt true (sZ w os) = openGood qv loose :=
  looks_pair (look2_0 w os) (looks_pair (look2_1 w os) (looks_pair (look2_2 w os) (looks_pair (look2_3 w os) (looks_pair (look2_4 w os) (looks_pair (look2_5 w os) (looks_pair (look2_6 w os) (looks_pair (look2_7 w os) (look2_8 w os))))))))
theorem left : LeftO pw qv loose Xt Yf Ya 5446 := by
  rewrite [pw_eq]
  refine LeftO.of_pieces (H₀ := boot_heap) (H₁ := hZ) (gs₀ := Array.mk []) (gs₁ := #[]) (d₀ := boot_drawn) (d₁ := {}) (k₀ := boot_toks) (k₁ := kZ) (m₀ := 11) (ann := some (.ref 6)) opened sized run rfl fun w => ?_
  funext os
  exact looks_pair (look1 w os) (looks_pair (look2 w os) (look3 w os))

noncomputable def posOfDef : Stmt → Pos
  | .FunctionDef (pos := n) .. => n
  | _ => default
noncomputable def dLaw : DefRec := ⟨nameOfDef (pbF 56), paramsOfDef (pbF 56), bodyOfDef (pbF 56), scopeOfDef (pbF 56), posOfDef (pbF 56)⟩
end Mine
end
section
open PySem PySem.W PySem.Calls PyProof.Rows
set_option genSizeOf false
namespace Mine
inductive AV where
  | none
  | bool (b : Bool)
  | int (i : Int)
  | byt (b : List UInt8)
  | ref (n : Nat)
  deriving DecidableEq, Inhabited
/-- the attributes' names -/
inductive AN where
  | page_size | pages | spare | kind | raws | right
  deriving DecidableEq, Inhabited
noncomputable def AN.str : AN → Str
  | .page_size => s108 | .pages => s97 | .spare => s116 | .kind => s56 | .raws => s73 | .right => s74
inductive AO where
  | list (vs : List AV)
  | tup (vs : List AV)
  | inst (C : Addr) (d : Nat)
  | dict (fs : List (AN × AV))
  | barr (b : List UInt8)
  | frz (ns : List Int) (ob : Obj)
abbrev AH := List AO
abbrev Loc := List (Option AV)

noncomputable def VM (ρ : List Addr) : AV → Value → Prop
  | .none, v => v = .none
  | .bool b, v => v = .bool b
  | .int i, v => ∃ t, v = .int i t
  | .byt b, v => ∃ t, v = .bytes b.toArray t
  | .ref n, v => ∃ a, v = .ref a ∧ ρ[n]? = some a
noncomputable def VMs (ρ : List Addr) : List AV → List Value → Prop
  | [], vs => vs = []
  | a :: as, vs => ∃ v r, vs = v :: r ∧ VM ρ a v ∧ VMs ρ as r
noncomputable def FM (ρ : List Addr) : List (AN × AV) → List DictEntry → Prop
  | [], es => es = []
  | f :: fs, es => ∃ e r t, es = e :: r ∧ e.key = .str f.1.str t ∧ VM ρ f.2 e.val ∧ FM ρ fs r
noncomputable def OM (ρ : List Addr) : AO → Obj → Prop
  | .list vs, o => ∃ its n, o = ({ cls := .type "list", data := .seq (List.toArray its) n } : Obj) ∧ VMs ρ vs its
  | .tup vs, o => ∃ its n, o = ({ cls := .type "tuple", data := .seq (List.toArray its) n } : Obj) ∧ VMs ρ vs its
  | .inst C d, o => ∃ dx sl, o = (⟨.ref C, some dx, .plain, sl⟩ : Obj) ∧ ρ[d]? = some dx
  | .dict fs, o => ∃ es n, o = dictOf es n ∧ FM ρ fs es
  | .barr b, o => o = ({ cls := .type "bytearray", data := .bytearray b.toArray } : Obj)
  | .frz ns ob, o => o = ob ∧ o.cls = .type "list" ∧ ∃ its k, o.data = .seq (List.toArray its) k ∧ IntsAre its ns
theorem OM.free {ρ : List Addr} {a : AO} {o : Obj} (h : OM ρ a o) : o.isFreed = false := by
  cases a with
  | list vs => obtain ⟨its, n, rfl, _⟩ := h; rfl
  | tup vs => obtain ⟨its, n, rfl, _⟩ := h; rfl
  | inst C d => obtain ⟨dx, sl, rfl, _⟩ := h; rfl
  | dict fs => obtain ⟨es, n, rfl, _⟩ := h; rfl
  | barr b => subst h; rfl
  | frz ns ob => obtain ⟨_, _, its, k, e, _⟩ := h; exact Obj.isFreed_of_seq e

theorem pre_get {ρ ρ' : List Addr} (p : ρ <+: ρ') {n : Nat} {a : Addr} (h : ρ[n]? = some a) : ρ'[n]? = some a := by
  obtain ⟨t, rfl⟩ := p
  rw [List.getElem?_append_left (List.getElem?_eq_some_iff.mp h).1]; exact h
theorem VM.mono {ρ ρ' : List Addr} (p : ρ <+: ρ') {a : AV} {v : Value} (h : VM ρ a v) : VM ρ' a v := by
  cases a with
  | ref n => obtain ⟨x, e, g⟩ := h; exact ⟨x, e, pre_get p g⟩
  | _ => exact h
theorem VMs.mono {ρ ρ' : List Addr} (p : ρ <+: ρ') : ∀ {as : List AV} {vs : List Value}, VMs ρ as vs → VMs ρ' as vs
  | [], _, h => h
  | _ :: _, _, ⟨v, r, e, h, t⟩ => ⟨v, r, e, h.mono p, VMs.mono p t⟩
theorem FM.mono {ρ ρ' : List Addr} (p : ρ <+: ρ') : ∀ {fs : List (AN × AV)} {es : List DictEntry}, FM ρ fs es → FM ρ' fs es
  | [], _, h => h
  | _ :: _, _, ⟨e, r, t, q, k, h, x⟩ => ⟨e, r, t, q, k, h.mono p, FM.mono p x⟩
theorem OM.mono {ρ ρ' : List Addr} (p : ρ <+: ρ') {a : AO} {o : Obj} (h : OM ρ a o) : OM ρ' a o := by
  cases a with
  | list vs => obtain ⟨its, n, e, x⟩ := h; exact ⟨its, n, e, x.mono p⟩
  | tup vs => obtain ⟨its, n, e, x⟩ := h; exact ⟨its, n, e, x.mono p⟩
  | inst C d => obtain ⟨dx, sl, e, x⟩ := h; exact ⟨dx, sl, e, pre_get p x⟩
  | dict fs => obtain ⟨es, n, e, x⟩ := h; exact ⟨es, n, e, x.mono p⟩
  | barr b => exact h
  | frz ns ob => exact h

theorem VMs.length {ρ : List Addr} : ∀ {as : List AV} {vs : List Value}, VMs ρ as vs → vs.length = as.length
  | [], _, h => by cases h; rfl
  | _ :: _, _, ⟨v, r, e, _, t⟩ => by subst e; simp [t.length]
theorem VMs.get {ρ : List Addr} : ∀ {as : List AV} {vs : List Value} {i : Nat} {a : AV}, VMs ρ as vs → as[i]? = some a → ∃ v, vs[i]? = some v ∧ VM ρ a v
  | [], _, i, a, _, e => by simp at e
  | _ :: _, _, 0, a, ⟨v, r, e, h, t⟩, g => by subst e; simp at g; subst g; exact ⟨v, by simp, h⟩
  | _ :: _, _, i + 1, a, ⟨v, r, e, h, t⟩, g => by subst e; simpa using t.get (by simpa using g)
theorem VMs.append {ρ : List Addr} : ∀ {as bs : List AV} {vs ws : List Value}, VMs ρ as vs → VMs ρ bs ws → VMs ρ (as ++ bs) (vs ++ ws)
  | [], _, _, _, h, k => by cases h; exact k
  | _ :: _, _, _, _, ⟨v, r, e, h, t⟩, k => by subst e; exact ⟨v, r ++ _, rfl, h, t.append k⟩
theorem VMs.one {ρ : List Addr} {a : AV} {v : Value} (h : VM ρ a v) : VMs ρ [a] [v] := ⟨v, [], rfl, h, rfl⟩
theorem VMs.set {ρ : List Addr} {b : AV} {w : Value} (hb : VM ρ b w) : ∀ {as : List AV} {vs : List Value} (i : Nat), VMs ρ as vs → VMs ρ (as.set i b) (vs.set i w)
  | [], _, _, h => by cases h; exact rfl
  | _ :: _, _, 0, ⟨v, r, e, h, t⟩ => by subst e; exact ⟨w, r, rfl, hb, t⟩
  | _ :: _, _, i + 1, ⟨v, r, e, h, t⟩ => by subst e; exact ⟨v, r.set i w, rfl, h, t.set hb i⟩
theorem VMs.take {ρ : List Addr} : ∀ {as : List AV} {vs : List Value} (i : Nat), VMs ρ as vs → VMs ρ (as.take i) (vs.take i)
  | [], _, _, h => by cases h; simp [VMs]
  | _ :: _, _, 0, _ => by simp [VMs]
  | _ :: _, _, i + 1, ⟨v, r, e, h, t⟩ => by subst e; exact ⟨v, r.take i, rfl, h, t.take i⟩
theorem VMs.drop {ρ : List Addr} : ∀ {as : List AV} {vs : List Value} (i : Nat), VMs ρ as vs → VMs ρ (as.drop i) (vs.drop i)
  | [], _, _, h => by cases h; simp [VMs]
  | _ :: _, _, 0, h => h
  | _ :: _, _, i + 1, ⟨v, r, e, h, t⟩ => by subst e; exact t.drop i
theorem VMs.reverse {ρ : List Addr} : ∀ {as : List AV} {vs : List Value}, VMs ρ as vs → VMs ρ as.reverse vs.reverse
  | [], _, h => by cases h; exact rfl
  | _ :: _, _, ⟨v, r, e, h, t⟩ => by subst e; simp only [List.reverse_cons]; exact t.reverse.append (VMs.one h)

structure St (base : Heap) (ρ : List Addr) (H : AH) (h : Heap) : Prop where
  keep : ∀ b o, base.get? b = some o → h.get? b = some o
  fresh : ∀ a ∈ ρ, base.get? a = none
  len : ρ.length = H.length
  nodup : ρ.Nodup
  obj : ∀ (n : Nat) (o' : AO), H[n]? = some o' → ∃ a o, ρ[n]? = some a ∧ h.get? a = some o ∧ OM ρ o' o
structure Ext (ρ : List Addr) (h : Heap) (ρ' : List Addr) (h' : Heap) : Prop where
  grow : ∃ new, ρ' = ρ ++ new ∧ ∀ a ∈ new, h.get? a = none
  keep : ∀ b o, h.get? b = some o → b ∉ ρ → h'.get? b = some o
theorem Ext.pre {ρ ρ' : List Addr} {h h' : Heap} (x : Ext ρ h ρ' h') : ρ <+: ρ' := let ⟨n, e, _⟩ := x.grow; ⟨n, e.symm⟩
theorem Ext.refl (ρ : List Addr) (h : Heap) : Ext ρ h ρ h := ⟨⟨[], by simp, by simp⟩, fun _ _ e _ => e⟩
theorem Ext.off {ρ ρ' : List Addr} {h h' : Heap} (x : Ext ρ h ρ' h') {b : Addr} {o : Obj} (e : h.get? b = some o) (hb : b ∉ ρ) : b ∉ ρ' := by
  obtain ⟨new, rfl, hn⟩ := x.grow
  intro hm
  rcases List.mem_append.mp hm with hm | hm
  · exact hb hm
  · rw [hn b hm] at e; cases e
theorem St.alive {base : Heap} {ρ : List Addr} {H : AH} {h : Heap} (S : St base ρ H h) {a : Addr} (ha : a ∈ ρ) : ∃ o, h.get? a = some o := by
  obtain ⟨n, hn, rfl⟩ := List.getElem_of_mem ha
  have hn' : n < H.length := S.len ▸ hn
  obtain ⟨a', o, e1, e2, _⟩ := S.obj n H[n] (List.getElem?_eq_getElem hn')
  rw [List.getElem?_eq_getElem hn] at e1
  cases e1; exact ⟨o, e2⟩
theorem Ext.trans {base : Heap} {ρ ρ' ρ'' : List Addr} {h h' h'' : Heap} {H' : AH} (x : Ext ρ h ρ' h') (S : St base ρ' H' h') (y : Ext ρ' h' ρ'' h'') : Ext ρ h ρ'' h'' := by
  obtain ⟨n1, e1, f1⟩ := x.grow
  obtain ⟨n2, e2, f2⟩ := y.grow
  refine ⟨⟨n1 ++ n2, by rw [e2, e1, List.append_assoc], fun a ha => ?_⟩, fun b o e hb => y.keep b o (x.keep b o e hb) (x.off e hb)⟩
  rcases List.mem_append.mp ha with ha | ha
  · exact f1 a ha
  · cases q : h.get? a with
    | none => rfl
    | some o =>
      by_cases hm : a ∈ ρ
      · obtain ⟨o', e'⟩ := S.alive (x.pre.subset hm)
        rw [f2 a ha] at e'; cases e'
      · have := x.keep a o q hm
        rw [f2 a ha] at this; cases this
/-- only toks changed, or the heap kept all: the same abstract heap -/
theorem St.grown {base : Heap} {ρ : List Addr} {H : AH} {h h' : Heap} (S : St base ρ H h) (k : ∀ b o, h.get? b = some o → h'.get? b = some o) : St base ρ H h' :=
  ⟨fun b o e => k b o (S.keep b o e), S.fresh, S.len, S.nodup, fun n o' e => let ⟨a, o, e1, e2, m⟩ := S.obj n o' e; ⟨a, o, e1, k a o e2, m⟩⟩
theorem Ext.grown {ρ : List Addr} {h h' : Heap} (k : ∀ b o, h.get? b = some o → h'.get? b = some o) : Ext ρ h ρ h' := ⟨⟨[], by simp, by simp⟩, fun b o e _ => k b o e⟩
/-- a new object, onto the abstract heap -/
theorem St.alloc {base : Heap} {ρ : List Addr} {H : AH} {h h' : Heap} {a : Addr} {o : Obj} {x : AO} (S : St base ρ H h) (k : ∀ b o, h.get? b = some o → h'.get? b = some o) (hn : h.get? a = none) (ho : h'.get? a = some o) (m : OM (ρ ++ [a]) x o) :
    St base (ρ ++ [a]) (H ++ [x]) h' ∧ Ext ρ h (ρ ++ [a]) h' := by
  refine ⟨⟨fun b o e => k b o (S.keep b o e), fun b hb => ?_, by simp [S.len], ?_, fun n o' e => ?_⟩, ⟨⟨[a], rfl, by simpa using hn⟩, fun b o e _ => k b o e⟩⟩
  · rcases List.mem_append.mp hb with hb | hb
    · exact S.fresh b hb
    · cases List.mem_singleton.mp hb
      cases q : base.get? a with
      | none => rfl
      | some o => have := S.keep a o q; rw [hn] at this; cases this
  · refine List.nodup_append.mpr ⟨S.nodup, by simp, fun b hb c hc => ?_⟩
    cases List.mem_singleton.mp hc
    intro e; subst e
    obtain ⟨o', e'⟩ := S.alive hb
    rw [hn] at e'; cases e'
  · rcases Nat.lt_or_ge n H.length with hlt | hge
    · rw [List.getElem?_append_left hlt] at e
      obtain ⟨b, ob, e1, e2, m'⟩ := S.obj n o' e
      exact ⟨b, ob, pre_get ⟨[a], rfl⟩ e1, k b ob e2, m'.mono ⟨[a], rfl⟩⟩
    · rw [List.getElem?_append_right hge] at e
      have : n - H.length = 0 := by
        rcases Nat.eq_zero_or_pos (n - H.length) with q | q
        · exact q
        · rw [List.getElem?_eq_none (by simp only [List.length_cons, List.length_nil]; exact om478 q)] at e; cases e
      rw [this] at e
      simp at e; subst e
      have hn' : n = ρ.length := by rw [S.len]; exact om479 hge this
      subst hn'
      exact ⟨a, o, by simp, ho, m⟩
theorem get_at {ρ : List Addr} (a : Addr) {n : Nat} (h : ρ.length = n) : (ρ ++ [a])[n]? = some a := by subst h; simp
/-- an object changed in place -/
theorem St.put {base : Heap} {ρ : List Addr} {H : AH} {h h' : Heap} {n : Nat} {a : Addr} {o : Obj} {x : AO} (S : St base ρ H h) (ha : ρ[n]? = some a) (hs : ∀ b o, b ≠ a → h.get? b = some o → h'.get? b = some o) (ho : h'.get? a = some o) (m : OM ρ x o) :
    St base ρ (H.set n x) h' ∧ Ext ρ h ρ h' := by
  have hmem : a ∈ ρ := List.mem_of_getElem? ha
  refine ⟨⟨fun b o e => hs b o (fun q => ?_) (S.keep b o e), S.fresh, by simp [S.len], S.nodup, fun k o' e => ?_⟩, ⟨⟨[], by simp, by simp⟩, fun b o e hb => hs b o (fun q => hb (q ▸ hmem)) e⟩⟩
  · subst q
    have := S.fresh _ hmem; rw [e] at this; cases this
  · rw [List.getElem?_set] at e
    split at e
    · rename_i hk
      subst hk
      split at e
      · cases e; exact ⟨a, o, ha, ho, m⟩
      · cases e
    · rename_i hk
      obtain ⟨b, ob, e1, e2, m'⟩ := S.obj k o' e
      refine ⟨b, ob, e1, hs b ob (fun q => ?_) e2, m'⟩
      subst q
      exact hk ((List.getElem?_inj (List.getElem?_eq_some_iff.mp ha).1 S.nodup).mp (ha.trans e1.symm))

noncomputable def At (env : Env) (h : Heap) (m : Str → Option Value) (x : Str) (v : Value) : Prop :=
  (env.kindOf x = some .local ∧ m x = some v) ∨ (env.kindOf x = some .cell ∧ ∃ c, env.cells.lookup x = some c ∧ h.IsCell c (some v))
noncomputable def Slot1 (env : Env) (x : Str) : Prop := env.kindOf x = some .local ∨ (env.kindOf x = some .cell ∧ (env.cells.lookup x).isSome = true)
structure LR (env : Env) (vars : List Str) (loc : Loc) (ρ : List Addr) (h : Heap) : Prop where
  kind : env.scope.kind = .function
  glob : env.globals = mainGlobals
  blt : env.builtins = builtinsNs
  nd : vars.Nodup
  slot : ∀ x ∈ vars, Slot1 env x
  cell : ∀ x c, env.cells.lookup x = some c → (∃ v, h.IsCell c v) ∧ c ∉ ρ ∧ c ≠ env.locals
  inj : ∀ x y c, env.cells.lookup x = some c → env.cells.lookup y = some c → x = y
  nL : env.locals ∉ ρ
  ns : ∃ m, h.Ns env.locals m ∧ ∀ (i : Nat) (x : Str) (v : AV), vars[i]? = some x → loc[i]? = some (some v) → ∃ v', VM ρ v v' ∧ At env h m x v'
theorem isCell_keep {h h' : Heap} {c : Addr} {v : Option Value} {ρ : List Addr} (k : ∀ b o, h.get? b = some o → b ∉ ρ → h'.get? b = some o) (hc : c ∉ ρ) (x : h.IsCell c v) : h'.IsCell c v :=
  let ⟨o, e, d⟩ := x; ⟨o, k c o e hc, d⟩
theorem ns_keep {h h' : Heap} {L : Addr} {m : Str → Option Value} {ρ : List Addr} (k : ∀ b o, h.get? b = some o → b ∉ ρ → h'.get? b = some o) (hc : L ∉ ρ) (x : h.Ns L m) : h'.Ns L m :=
  let ⟨o, es, ep, e, d⟩ := x; ⟨o, es, ep, k L o e hc, d⟩
theorem LR.ext {env : Env} {vars : List Str} {loc : Loc} {ρ ρ' : List Addr} {h h' : Heap} (F : LR env vars loc ρ h) (x : Ext ρ h ρ' h') : LR env vars loc ρ' h' := by
  obtain ⟨m, hn, hv⟩ := F.ns
  refine ⟨F.kind, F.glob, F.blt, F.nd, F.slot, fun y c e => ?_, F.inj, ?_, m, ns_keep x.keep F.nL hn, fun i y v e1 e2 => ?_⟩
  · obtain ⟨⟨v, hc⟩, h1, h2⟩ := F.cell y c e
    obtain ⟨o, eo, _⟩ := id hc
    exact ⟨⟨v, isCell_keep x.keep h1 hc⟩, x.off eo h1, h2⟩
  · obtain ⟨o, _, _, eo, _⟩ := hn
    exact x.off eo F.nL
  · obtain ⟨v', h1, h2⟩ := hv i y v e1 e2
    refine ⟨v', h1.mono x.pre, h2.imp id fun ⟨a, c, b, d⟩ => ⟨a, c, b, isCell_keep x.keep (F.cell y c b).2.1 d⟩⟩
section
variable {M : Model} {A : Around} {E : Value → Shared → Prop} {s : Shared} {env : Env} {vars : List Str} {loc : Loc} {ρ : List Addr} {base : Heap} {H : AH}
theorem LR.load {i : Nat} {x : Str} {v : AV} {Q : Value → Shared → Prop} (F : LR env vars loc ρ s.heap) (hx : vars[i]? = some x) (hv : loc[i]? = some (some v)) (h : ∀ v', VM ρ v v' → Q v' s) :
    wpAny M A (loadName env x) Q E s := by
  obtain ⟨m, hn, hvs⟩ := F.ns
  obtain ⟨v', h1, h2⟩ := hvs i x v hx hv
  rcases h2 with ⟨a, b⟩ | ⟨a, c, b, d⟩
  · exact wpAny_loadName_local F.kind a hn b (h v' h1)
  · exact wpAny_loadName_cell F.kind a b d (h v' h1)
theorem LR.store {i : Nat} {x : Str} {v : AV} {v' : Value} {Q : Unit → Shared → Prop} (F : LR env vars loc ρ s.heap) (S : St base ρ H s.heap) (hx : vars[i]? = some x) (hb : ∀ y o, base.get? y = some o → y ≠ env.locals ∧ ∀ x, env.cells.lookup x ≠ some y) (hv : VM ρ v v')
    (h : ∀ h' tk, LR env vars (loc.set i (some v)) ρ h' → St base ρ H h' → (∀ b o, s.heap.get? b = some o → b ≠ env.locals → (∀ x, env.cells.lookup x ≠ some b) → h'.get? b = some o) → Q () { s with heap := h', toks := tk }) :
    wpAny M A (storeName env x v') Q E s := by
  obtain ⟨m, hn, hvs⟩ := F.ns
  have hp : (env.scope.kind == .class || (env.scope.kind == .module && env.locals != env.globals)) = false := by rw [F.kind]; rfl
  have hi : i < vars.length := (List.getElem?_eq_some_iff.mp hx).1
  have other : ∀ (j : Nat) (y : Str) (w : AV), vars[j]? = some y → (loc.set i (some v))[j]? = some (some w) → (j = i ∧ y = x ∧ w = v) ∨ (y ≠ x ∧ loc[j]? = some (some w)) := fun j y w e1 e2 => by
    rw [List.getElem?_set] at e2
    split at e2
    · rename_i q; subst q
      rw [hx] at e1; cases e1
      split at e2
      · cases e2; exact .inl ⟨rfl, rfl, rfl⟩
      · cases e2
    · rename_i q
      refine .inr ⟨fun r => q ?_, e2⟩
      subst r
      exact (List.getElem?_inj hi F.nd).mp (hx.trans e1.symm)
  rcases F.slot x (List.mem_of_getElem? hx) with hl | ⟨hl, hc⟩
  · refine wpAny_storeName_local hl hn (fun h' hn' hs => h h' _ ?_ ?_ fun b o e hb1 _ => ?_) hp
    · refine ⟨F.kind, F.glob, F.blt, F.nd, F.slot, fun y c e => ?_, F.inj, F.nL, _, hn', fun j y w e1 e2 => ?_⟩
      · obtain ⟨⟨v, o, eo, d⟩, h1, h2⟩ := F.cell y c e
        exact ⟨⟨v, o, (hs.2 c h2).trans eo, d⟩, h1, h2⟩
      · rcases other j y w e1 e2 with ⟨_, rfl, rfl⟩ | ⟨hy, e3⟩
        · exact ⟨v', hv, .inl ⟨hl, by simp⟩⟩
        · obtain ⟨w', h1, h2⟩ := hvs j y w e1 e3
          refine ⟨w', h1, h2.imp (fun ⟨a, b⟩ => ⟨a, by simp [hy, b]⟩) fun ⟨a, c, b, o, eo, d⟩ => ⟨a, c, b, o, (hs.2 c (F.cell y c b).2.2).trans eo, d⟩⟩
    · exact ⟨fun b o e => (hs.2 b (hb b o e).1).trans (S.keep b o e), S.fresh, S.len, S.nodup, fun n o' e => let ⟨a, o, e1, e2, mm⟩ := S.obj n o' e; ⟨a, o, e1, (hs.2 a fun q => F.nL (q ▸ List.mem_of_getElem? e1)).trans e2, mm⟩⟩
    · exact (hs.2 b hb1).trans e
  · obtain ⟨c, hc⟩ := Option.isSome_iff_exists.mp hc
    obtain ⟨⟨v₀, hc0⟩, hcρ, hcL⟩ := F.cell x c hc
    refine wpAny_storeName_cell F.kind hl hc hc0 fun h' hv1 hs => h h' _ ?_ ?_ fun b o e _ hb2 => ?_
    · refine ⟨F.kind, F.glob, F.blt, F.nd, F.slot, fun y d e => ?_, F.inj, F.nL, m, hn.sameBut hs (Ne.symm hcL), fun j y w e1 e2 => ?_⟩
      · obtain ⟨⟨v, o, eo, dd⟩, h1, h2⟩ := F.cell y d e
        refine ⟨?_, h1, h2⟩
        by_cases q : d = c
        · subst q; exact ⟨_, hv1⟩
        · exact ⟨v, o, (hs.2 d q).trans eo, dd⟩
      · rcases other j y w e1 e2 with ⟨_, rfl, rfl⟩ | ⟨hy, e3⟩
        · exact ⟨v', hv, .inr ⟨hl, c, hc, hv1⟩⟩
        · obtain ⟨w', h1, h2⟩ := hvs j y w e1 e3
          refine ⟨w', h1, h2.imp id fun ⟨a, d, b, o, eo, dd⟩ => ⟨a, d, b, o, (hs.2 d fun q => hy (F.inj y x c (q ▸ b) hc)).trans eo, dd⟩⟩
    · exact ⟨fun b o e => (hs.2 b fun q => (hb b o e).2 x (q ▸ hc)).trans (S.keep b o e), S.fresh, S.len, S.nodup, fun n o' e => let ⟨a, o, e1, e2, mm⟩ := S.obj n o' e; ⟨a, o, e1, (hs.2 a fun q => hcρ (q ▸ List.mem_of_getElem? e1)).trans e2, mm⟩⟩
    · exact (hs.2 b fun q => hb2 x (q ▸ hc)).trans e
end
end Mine
end
section
open PySem PySem.W PySem.Calls PyProof.Rows
set_option genSizeOf false
set_option genInjectivity false
namespace Mine
inductive BOp where | add | sub | mul | fdiv | mod | band | bor | shl | shr | pow
  deriving DecidableEq
inductive COp where | eq | ne | lt | le | gt | ge
  deriving DecidableEq
inductive BI where | len | max | int | sum | bytes | barr | list
  deriving DecidableEq
inductive MI where | append | pop | reverse | join
  deriving DecidableEq
mutual
inductive IE where
  | none | bool (b : Bool) | int (i : Int) | byt (b : List UInt8)
  | var (x : Nat) | glob (i : Int)
  | bin (op : BOp) (a b : IE) | neg (a : IE) | unot (a : IE) | ands (l : IEs) | ors (l : IEs)
  | cmp (op : COp) (a b : IE) | ite (t a b : IE)
  | call (f : Addr) (args : IEs) | new (C : Addr) (args : IEs) | bi (b : BI) (args : IEs)
  | meth (m : MI) (o : IE) (args : IEs) | toB (o n : IE) | um (n : Nat) (o : IE) (args : IEs)
  | attr (o : IE) (n : AN) | idx (o i : IE) | slcL (o lo : IE) | slcH (o hi : IE) | slcB (o lo hi : IE)
  | list (l : IEs) | tup (l : IEs)
  | compR (caps : List Nat) (elt n : IE) | compL (caps : List Nat) (elt src : IE)
inductive IEs where
  | nil | cons (e : IE) (r : IEs)
end
mutual
inductive IS where
  | assign (x : Nat) (e : IE) | assignT (xs : List Nat) (e : IE)
  | setAttr (o : IE) (n : AN) (e : IE) | setItem (o i e : IE)
  | aug (x : Nat) (op : BOp) (e : IE)
  | expr (e : IE) | ret (e : IE) | ifs (t : IE) (a b : ISs) | whil (t : IE) (b : ISs)
  | forL (x : Nat) (src : IE) (b : ISs) | forR (x : Nat) (n : IE) (b : ISs) | forR3 (x : Nat) (a n st : IE) (b : ISs)
  | bad
inductive ISs where
  | nil | cons (e : IS) (r : ISs)
end
inductive Fl where
  | next | ret (v : AV)

abbrev PQ := AV → AH → Prop
abbrev Orc := Nat → List AV → AH → PQ → Prop
noncomputable def line : Nat := 100000
noncomputable def IsPrim : AV → Prop
  | .ref _ => False
  | _ => True
noncomputable def onInt (k : Int → AH → Prop) (v : AV) (H : AH) : Prop := match v with | .int i => k i H | _ => False
noncomputable def onRef (k : Nat → AH → Prop) (v : AV) (H : AH) : Prop := match v with | .ref i => k i H | _ => False
noncomputable def onByt (k : List UInt8 → AH → Prop) (v : AV) (H : AH) : Prop := match v with | .byt i => k i H | _ => False
noncomputable def onInt2 (k : Int → Int → AH → Prop) (a b : AV) (H : AH) : Prop := onInt (fun x H => onInt (fun y H => k x y H) b H) a H
noncomputable def on0 (k : Prop) (as : List AV) : Prop := match as with | [] => k | _ :: _ => False
noncomputable def on1 (k : AV → Prop) (as : List AV) : Prop := match as with | [] => False | x :: r => on0 (k x) r
noncomputable def on2 (k : AV → AV → Prop) (as : List AV) : Prop := match as with | [] => False | x :: r => on1 (fun y => k x y) r
noncomputable def onNil (k : Prop) (b : List UInt8) : Prop := match b with | [] => k | _ :: _ => False
theorem onInt_inv {k : Int → AH → Prop} {v : AV} {H : AH} (h : onInt k v H) : ∃ i, v = .int i ∧ k i H := by cases v <;> first | exact False.elim h | exact ⟨_, rfl, h⟩
theorem onRef_inv {k : Nat → AH → Prop} {v : AV} {H : AH} (h : onRef k v H) : ∃ i, v = .ref i ∧ k i H := by cases v <;> first | exact False.elim h | exact ⟨_, rfl, h⟩
theorem onByt_inv {k : List UInt8 → AH → Prop} {v : AV} {H : AH} (h : onByt k v H) : ∃ i, v = .byt i ∧ k i H := by cases v <;> first | exact False.elim h | exact ⟨_, rfl, h⟩
theorem onInt2_inv {k : Int → Int → AH → Prop} {a b : AV} {H : AH} (h : onInt2 k a b H) : ∃ i j, a = .int i ∧ b = .int j ∧ k i j H :=
  let ⟨i, e, h⟩ := onInt_inv h
  let ⟨j, e', h⟩ := onInt_inv h
  ⟨i, j, e, e', h⟩
theorem on0_inv {k : Prop} {as : List AV} (h : on0 k as) : as = [] ∧ k := by cases as with | nil => exact ⟨rfl, h⟩ | cons _ _ => exact False.elim h
theorem on1_inv {k : AV → Prop} {as : List AV} (h : on1 k as) : ∃ x, as = [x] ∧ k x := by
  cases as with
  | nil => exact False.elim h
  | cons x r => obtain ⟨rfl, h⟩ := on0_inv h; exact ⟨x, rfl, h⟩
theorem on2_inv {k : AV → AV → Prop} {as : List AV} (h : on2 k as) : ∃ x y, as = [x, y] ∧ k x y := by
  cases as with
  | nil => exact False.elim h
  | cons x r => obtain ⟨y, rfl, h⟩ := on1_inv h; exact ⟨x, y, rfl, h⟩
theorem onNil_inv {k : Prop} {b : List UInt8} (h : onNil k b) : b = [] ∧ k := by cases b with | nil => exact ⟨rfl, h⟩ | cons _ _ => exact False.elim h
/-- the answers of == that are served -/
noncomputable def eqR (i j : Nat) (H : AH) (Q : Bool → Prop) : Prop :=
    (∃ vs ws, H[i]? = some (.list vs) ∧ H[j]? = some (.list ws) ∧ ((vs.length ≠ ws.length ∧ Q false) ∨ (vs = ws ∧ (∀ v ∈ vs, IsPrim v) ∧ Q true))) ∨
    (∃ a b c d, H[i]? = some (.tup [a, b]) ∧ H[j]? = some (.tup [c, d]) ∧ (∃ vs m, a = .ref m ∧ H[m]? = some (.list vs) ∧ (∀ v ∈ vs, IsPrim v) ∧ ∃ k, c = .ref k ∧ H[k]? = some (.list vs)) ∧ b = d ∧ IsPrim b ∧ Q true)
noncomputable def eqA (a b : AV) (H : AH) (Q : Bool → Prop) : Prop :=
  match a with
  | .int x => onInt (fun y _ => Q (decide (x = y))) b H
  | .byt x => onByt (fun y _ => Q (decide (x = y))) b H
  | .ref i => onRef (fun j H => eqR i j H Q) b H
  | _ => False
noncomputable def neR (i : Nat) (Q : PQ) (j : Nat) (H : AH) : Prop := ∃ vs ws, H[i]? = some (.list vs) ∧ H[j]? = some (.list ws) ∧ ((vs.length ≠ ws.length ∧ Q (.bool true) H) ∨ (vs = [] ∧ ws = [] ∧ Q (.bool false) H))
noncomputable def neA (a b : AV) (H : AH) (Q : PQ) : Prop :=
  match a with
  | .int x => onInt (fun y H => Q (.bool (x != y)) H) b H
  | .byt x => onByt (fun y H => Q (.bool (x != y)) H) b H
  | .ref i => onRef (neR i Q) b H
  | _ => False
noncomputable def cmpA (op : COp) (a b : AV) (H : AH) (Q : PQ) : Prop :=
  match op with
  | .eq => eqA a b H fun r => Q (.bool r) H
  | .ne => neA a b H Q
  | .lt => onInt2 (fun x y H => Q (.bool (decide (x < y))) H) a b H
  | .le => onInt2 (fun x y H => Q (.bool (decide (x ≤ y))) H) a b H
  | .gt => onInt2 (fun x y H => Q (.bool (decide (x > y))) H) a b H
  | .ge => onInt2 (fun x y H => Q (.bool (decide (x ≥ y))) H) a b H
noncomputable def addR (i : Nat) (Q : PQ) (j : Nat) (H : AH) : Prop := ∃ vs ws, H[i]? = some (.list vs) ∧ H[j]? = some (.list ws) ∧ vs.length + ws.length < 100000 ∧ Q (.ref H.length) (H ++ [.list (vs ++ ws)])
noncomputable def mulR (i : Nat) (Q : PQ) (n : Int) (H : AH) : Prop := ∃ v, H[i]? = some (.list [v]) ∧ 0 ≤ n ∧ n < 100000 ∧ Q (.ref H.length) (H ++ [.list (List.replicate n.toNat v)])
noncomputable def addA (a b : AV) (H : AH) (Q : PQ) : Prop :=
  match a with
  | .int x => onInt (fun y H => Q (.int (x + y)) H) b H
  | .byt x => onByt (fun y H => x.length + y.length < 100000 ∧ Q (.byt (x ++ y)) H) b H
  | .ref i => onRef (addR i Q) b H
  | _ => False
noncomputable def mulA (a b : AV) (H : AH) (Q : PQ) : Prop :=
  match a with
  | .int x => onInt (fun y H => (x.natAbs < 2 ^ 64 ∨ y.natAbs < 2 ^ 64) ∧ Q (.int (x * y)) H) b H
  | .byt x => onInt (fun n H => x.length = 1 ∧ 0 ≤ n ∧ n < 100000 ∧ Q (.byt (List.replicate n.toNat x).flatten) H) b H
  | .ref i => onInt (mulR i Q) b H
  | _ => False
noncomputable def binA (op : BOp) (a b : AV) (H : AH) (Q : PQ) : Prop :=
  match op with
  | .add => addA a b H Q
  | .sub => onInt2 (fun x y H => Q (.int (x - y)) H) a b H
  | .mul => mulA a b H Q
  | .fdiv => onInt2 (fun x y H => (0 < y ∧ y < 1073741824) ∧ Q (.int (x / y)) H) a b H
  | .mod => onInt2 (fun x y H => 0 < y ∧ Q (.int (x % y)) H) a b H
  | .band => onInt2 (fun x y H => Q (.int (Builtin.bitAnd x y)) H) a b H
  | .bor => onInt2 (fun x y H => Q (.int (Builtin.bitOr x y)) H) a b H
  | .shl => onInt2 (fun x y H => (0 ≤ y ∧ y ≤ 1000 ∧ x.natAbs < 2 ^ 64) ∧ Q (.int (x * 2 ^ y.toNat)) H) a b H
  | .shr => onInt2 (fun x y H => 0 ≤ y ∧ Q (.int (x / (2 ^ y.toNat))) H) a b H
  | .pow => onInt2 (fun x y H => (0 ≤ y ∧ y ≤ 100 ∧ x.natAbs < 2 ^ 64) ∧ Q (.int (x ^ y.toNat)) H) a b H
noncomputable def truA (v : AV) (H : AH) (Q : Bool → AH → Prop) : Prop :=
  match v with
  | .bool b => Q b H
  | .int i => Q (i != 0) H
  | _ => False
/-- the place that a written index means -/
noncomputable def place (i : Int) (n : Nat) : Nat := (if i < 0 then i + n else i).toNat
noncomputable def inside (i : Int) (n : Nat) : Prop := (if i < 0 then i + n else i) < n ∧ 0 ≤ (if i < 0 then i + n else i)
noncomputable def idxR (r : Nat) (Q : PQ) (k : Int) (H : AH) : Prop := (∃ vs v, H[r]? = some (.list vs) ∧ vs.length < 100000 ∧ inside k vs.length ∧ vs[place k vs.length]? = some v ∧ Q v H) ∨
      (∃ ns ob i, H[r]? = some (.frz ns ob) ∧ ns.length < 100000 ∧ 0 ≤ k ∧ ns[k.toNat]? = some i ∧ Q (.int i) H)
noncomputable def idxB (b : List UInt8) (Q : PQ) (k : Int) (H : AH) : Prop := (0 ≤ k ∧ k < b.length ∧ b.length < 100000) ∧ Q (.int (b.getD k.toNat 0).toNat) H
noncomputable def idxA (o i : AV) (H : AH) (Q : PQ) : Prop :=
  match o with
  | .ref r => onInt (idxR r Q) i H
  | .byt b => onInt (idxB b Q) i H
  | _ => False
noncomputable def cut {α : Type} (l : List α) (lo hi : Option Int) : List α :=
  (l.drop (lo.elim 0 (clipAt l.length))).take (hi.elim l.length (clipAt l.length) - lo.elim 0 (clipAt l.length))
noncomputable def slcP (o : AV) (lo hi : Option Int) (H : AH) (Q : PQ) : Prop :=
  match o with
  | .ref r => ∃ vs, H[r]? = some (.list vs) ∧ vs.length < 100000 ∧ Q (.ref H.length) (H ++ [.list (cut vs lo hi)])
  | .byt b => b.length < 100000 ∧ Q (.byt (cut b lo hi)) H
  | _ => False
noncomputable def slcL (o i : AV) (H : AH) (Q : PQ) : Prop := onInt (fun i H => slcP o (some i) none H Q) i H
noncomputable def slcH (o j : AV) (H : AH) (Q : PQ) : Prop := onInt (fun j H => slcP o none (some j) H Q) j H
noncomputable def slcB (o i j : AV) (H : AH) (Q : PQ) : Prop := onInt2 (fun i j H => slcP o (some i) (some j) H Q) i j H
noncomputable def ints? : List AV → Option (List Int)
  | [] => some []
  | .int i :: r => (ints? r).map (i :: ·)
  | _ => none
noncomputable def byts? : List AV → Option (List (List UInt8))
  | [] => some []
  | .byt b :: r => (byts? r).map (b :: ·)
  | _ => none
noncomputable def lenA (a : AV) (H : AH) (Q : PQ) : Prop :=
  match a with
  | .ref r => (∃ vs, H[r]? = some (.list vs) ∧ vs.length < 100000 ∧ Q (.int vs.length) H) ∨ (∃ ns ob, H[r]? = some (.frz ns ob) ∧ ns.length < 100000 ∧ Q (.int ns.length) H)
  | .byt x => x.length < 100000 ∧ Q (.int x.length) H
  | _ => False
noncomputable def intA (a : AV) (H : AH) (Q : PQ) : Prop :=
  match a with
  | .int x => Q (.int x) H
  | .bool b => Q (.int (if b then 1 else 0)) H
  | _ => False
noncomputable def bytesA (a : AV) (H : AH) (Q : PQ) : Prop :=
  match a with
  | .int n => (0 ≤ n ∧ n < 100000) ∧ Q (.byt (List.replicate n.toNat 0)) H
  | .byt x => x.length < 100000 ∧ Q (.byt x) H
  | .ref r => (∃ vs ns, H[r]? = some (.list vs) ∧ ints? vs = some ns ∧ (∀ n ∈ ns, 0 ≤ n ∧ n < 256) ∧ vs.length < 100000 ∧ Q (.byt (ns.map fun n => n.toNat.toUInt8)) H) ∨
      (∃ x, H[r]? = some (.barr x) ∧ x.length < 100000 ∧ Q (.byt x) H)
  | _ => False
noncomputable def biA (b : BI) (as : List AV) (H : AH) (Q : PQ) : Prop :=
  match b with
  | .len => on1 (fun a => lenA a H Q) as
  | .max => on2 (fun a b => onInt2 (fun x y H => Q (.int (if x < y then y else x)) H) a b H) as
  | .int => on1 (fun a => intA a H Q) as
  | .sum => on1 (fun a => onRef (fun r H => ∃ vs ns, H[r]? = some (.list vs) ∧ ints? vs = some ns ∧ Q (.int ns.sum) H) a H) as
  | .bytes => on1 (fun a => bytesA a H Q) as
  | .barr => on1 (fun a => onInt (fun n H => (0 ≤ n ∧ n < 100000) ∧ Q (.ref H.length) (H ++ [.barr (List.replicate n.toNat 0)])) a H) as
  | .list => on1 (fun a => onRef (fun r H => ∃ vs, H[r]? = some (.list vs) ∧ vs.length < 100000 ∧ Q (.ref H.length) (H ++ [.list vs])) a H) as
noncomputable def methA (m : MI) (o : AV) (as : List AV) (H : AH) (Q : PQ) : Prop :=
  match m with
  | .append => onRef (fun r H => on1 (fun v => ∃ vs, H[r]? = some (.list vs) ∧ vs.length < 100000 ∧ Q .none (H.set r (.list (vs ++ [v])))) as) o H
  | .pop => onRef (fun r H => on0 (∃ vs v, H[r]? = some (.list (vs ++ [v])) ∧ vs.length < 100000 ∧ Q v (H.set r (.list vs))) as) o H
  | .reverse => onRef (fun r H => on0 (∃ vs, H[r]? = some (.list vs) ∧ vs.length < 100000 ∧ Q .none (H.set r (.list vs.reverse))) as) o H
  | .join => onByt (fun b H => onNil (on1 (fun a => onRef (fun r H => ∃ vs bs, H[r]? = some (.list vs) ∧ byts? vs = some bs ∧ bs.flatten.length < 100000 ∧ Q (.byt bs.flatten) H) a H) as) b) o H
/-- what the receiver of a builtin's method must be -/
noncomputable def recvA (m : MI) (o : AV) (H : AH) : Prop :=
  match m with
  | .join => onByt (fun _ _ => True) o H
  | _ => onRef (fun r H => ∃ vs, H[r]? = some (.list vs)) o H
noncomputable def getF (n : AN) : List (AN × AV) → Option AV
  | [] => none
  | (k, v) :: r => if k = n then some v else getF n r
noncomputable def putF (n : AN) (v : AV) : List (AN × AV) → List (AN × AV)
  | [] => [(n, v)]
  | (k, w) :: r => if k = n then (k, v) :: r else (k, w) :: putF n v r
noncomputable def attrA (o : AV) (n : AN) (H : AH) (Q : PQ) : Prop :=
  onRef (fun r H => ∃ C d fs v, H[r]? = some (.inst C d) ∧ H[d]? = some (.dict fs) ∧ getF n fs = some v ∧ (C = 199 ∨ C = 312) ∧ Q v H) o H
noncomputable def setAttrA (o : AV) (n : AN) (v : AV) (H : AH) (Q : AH → Prop) : Prop :=
  onRef (fun r H => ∃ C d fs, H[r]? = some (.inst C d) ∧ H[d]? = some (.dict fs) ∧ (C = 199 ∨ C = 312) ∧ fs.length < 100 ∧ Q (H.set d (.dict (putF n v fs)))) o H
noncomputable def setItemA (o i v : AV) (H : AH) (Q : AH → Prop) : Prop :=
  onRef (fun r H => onInt (fun k H => (∃ vs, H[r]? = some (.list vs) ∧ vs.length < 100000 ∧ inside k vs.length ∧ Q (H.set r (.list (vs.set (place k vs.length) v)))) ∨
      (∃ b n, H[r]? = some (.barr b) ∧ v = .int n ∧ 0 ≤ n ∧ n < 256 ∧ 0 ≤ k ∧ k < b.length ∧ b.length < 100000 ∧ Q (H.set r (.barr (b.set k.toNat n.toNat.toUInt8))))) i H) o H
/-- the classes' own defs -/
noncomputable def methOf (C : Addr) (n : Nat) : Option Addr :=
  if C = 312 then (match n with | 1 => some 274 | 2 => some 281 | 3 => some 288 | 4 => some 295 | _ => none) else none
noncomputable def initOf (C : Addr) : Option Addr := if C = 312 then some 267 else if C = 199 then some 189 else none

/-- a comprehension's turns -/
noncomputable def compTurns (P : AV → AH → PQ → Prop) (ok : AH → Prop) : List AV → List AV → AH → (List AV → AH → Prop) → Prop
  | [], acc, H, Q => ok H ∧ Q acc H
  | v :: r, acc, H, Q => ok H ∧ P v H fun y H' => compTurns P ok r (acc ++ [y]) H' Q
noncomputable def capsOf (loc : Loc) (caps : List Nat) : Loc := caps.map fun i => (loc[i]?).getD none
noncomputable def oget (k : AV → Prop) : Option AV → Prop
  | some v => k v
  | none => False
noncomputable def vget : Loc → Nat → (AV → Prop) → Prop
  | [], _, _ => False
  | a :: _, 0, k => oget k a
  | _ :: r, n + 1, k => vget r n k
theorem vget_eq : ∀ {l : Loc} {n : Nat} {k : AV → Prop}, vget l n k → ∃ v, l[n]? = some (some v) ∧ k v
  | [], _, _, h => h.elim
  | some v :: _, 0, _, h => ⟨v, rfl, h⟩
  | none :: _, 0, _, h => h.elim
  | _ :: r, n + 1, _, h => vget_eq (l := r) (n := n) h
mutual
noncomputable def WE (Γ : Orc) : IE → Loc → AH → PQ → Prop
  | .none, _, H, Q => Q .none H
  | .bool b, _, H, Q => Q (.bool b) H
  | .int i, _, H, Q => Q (.int i) H
  | .byt b, _, H, Q => Q (.byt b) H
  | .var x, loc, H, Q => vget loc x fun v => Q v H
  | .glob i, _, H, Q => Q (.int i) H
  | .bin op a b, loc, H, Q => WE Γ a loc H fun x H => WE Γ b loc H fun y H => binA op x y H Q
  | .neg a, loc, H, Q => WE Γ a loc H (onInt fun i H => Q (.int (-i)) H)
  | .unot _, _, _, _ => False
  | .ands l, loc, H, Q => WAnd Γ l loc H Q
  | .ors l, loc, H, Q => WOr Γ l loc H Q
  | .cmp op a b, loc, H, Q => WE Γ a loc H fun x H => WE Γ b loc H fun y H => cmpA op x y H Q
  | .ite t a b, loc, H, Q => WT Γ t loc H fun c H => if c then WE Γ a loc H Q else WE Γ b loc H Q
  | .call f args, loc, H, Q => WEs Γ args loc H fun vs H => Γ f vs H Q
  | .new C args, loc, H, Q => WEs Γ args loc H fun vs H => ∃ f, initOf C = some f ∧ Γ f (.ref (H.length + 1) :: vs) (H ++ [.dict [], .inst C H.length]) fun r H' => r = .none ∧ Q (.ref (H.length + 1)) H'
  | .bi b args, loc, H, Q => WEs Γ args loc H fun vs H => biA b vs H Q
  | .meth m o args, loc, H, Q => WE Γ o loc H fun x H => recvA m x H ∧ WEs Γ args loc H fun vs H => methA m x vs H Q
  | .toB o n, loc, H, Q => WE Γ o loc H (onInt fun i H => WE Γ n loc H fun k H => k = .int 2 ∧ (0 ≤ i ∧ i < 65536) ∧ Q (.byt [(i / 256).toNat.toUInt8, (i % 256).toNat.toUInt8]) H)
  | .um n o args, loc, H, Q => WE Γ o loc H (onRef fun r H => ∃ C d fs f, H[r]? = some (.inst C d) ∧ H[d]? = some (.dict fs) ∧ methOf C n = some f ∧ WEs Γ args loc H fun vs H => Γ f (.ref r :: vs) H Q)
  | .attr o n, loc, H, Q => WE Γ o loc H fun x H => attrA x n H Q
  | .idx o i, loc, H, Q => WE Γ o loc H fun x H => WE Γ i loc H fun k H => idxA x k H Q
  | .slcL o lo, loc, H, Q => WE Γ o loc H fun x H => WE Γ lo loc H fun i H => slcL x i H Q
  | .slcH o hi, loc, H, Q => WE Γ o loc H fun x H => WE Γ hi loc H fun j H => slcH x j H Q
  | .slcB o lo hi, loc, H, Q => WE Γ o loc H fun x H => WE Γ lo loc H fun i H => WE Γ hi loc H fun j H => slcB x i j H Q
  | .list l, loc, H, Q => WEs Γ l loc H fun vs H => vs.length < 1000 ∧ Q (.ref H.length) (H ++ [.list vs])
  | .tup l, loc, H, Q => WEs Γ l loc H fun vs H => (vs.length < 1000 ∧ vs ≠ []) ∧ Q (.ref H.length) (H ++ [.tup vs])
  | .compR caps elt n, loc, H, Q => WE Γ n loc H (onInt fun k H => (0 ≤ k ∧ k < 100000) ∧ compTurns (fun v H Q => WE Γ elt (some v :: capsOf loc caps) H Q) (fun _ => True) ((List.range k.toNat).map fun (i : Nat) => AV.int i) [] H fun vs H' => Q (.ref H'.length) (H' ++ [.list vs]))
  | .compL caps elt src, loc, H, Q => WE Γ src loc H (onRef fun r H => ∃ vs, H[r]? = some (.list vs) ∧ vs.length < 100000 ∧ compTurns (fun v H Q => WE Γ elt (some v :: capsOf loc caps) H Q) (fun H => H[r]? = some (.list vs)) vs [] H fun ys H' => Q (.ref H'.length) (H' ++ [.list ys]))
noncomputable def WEs (Γ : Orc) : IEs → Loc → AH → (List AV → AH → Prop) → Prop
  | .nil, _, H, Q => Q [] H
  | .cons e r, loc, H, Q => WE Γ e loc H fun v H => WEs Γ r loc H fun vs H => Q (v :: vs) H
noncomputable def WAnd (Γ : Orc) : IEs → Loc → AH → PQ → Prop
  | .nil, _, _, _ => False
  | .cons e .nil, loc, H, Q => WE Γ e loc H Q
  | .cons e r, loc, H, Q => WE Γ e loc H fun v H => truA v H fun b H => if b then WAnd Γ r loc H Q else Q v H
noncomputable def WOr (Γ : Orc) : IEs → Loc → AH → PQ → Prop
  | .nil, _, _, _ => False
  | .cons e .nil, loc, H, Q => WE Γ e loc H Q
  | .cons e r, loc, H, Q => WE Γ e loc H fun v H => truA v H fun b H => if b then Q v H else WOr Γ r loc H Q
noncomputable def WT (Γ : Orc) : IE → Loc → AH → (Bool → AH → Prop) → Prop
  | .unot a, loc, H, Q => WT Γ a loc H fun b H => Q (!b) H
  | .ands l, loc, H, Q => WTs Γ l loc H Q
  | .ors l, loc, H, Q => WTo Γ l loc H Q
  | .ite _ _ _, _, _, _ => False
  | .cmp op a b, loc, H, Q => WE Γ a loc H fun x H => WE Γ b loc H fun y H => cmpA op x y H fun v H => truA v H Q
  | .var x, loc, H, Q => vget loc x fun v => truA v H Q
  | .bool b, loc, H, Q => Q b H
  | .call f args, loc, H, Q => WEs Γ args loc H fun vs H => Γ f vs H fun v H => truA v H Q
  | _, _, _, _ => False
noncomputable def WTs (Γ : Orc) : IEs → Loc → AH → (Bool → AH → Prop) → Prop
  | .nil, _, H, Q => Q true H
  | .cons e r, loc, H, Q => WT Γ e loc H fun b H => if b then WTs Γ r loc H Q else Q false H
noncomputable def WTo (Γ : Orc) : IEs → Loc → AH → (Bool → AH → Prop) → Prop
  | .nil, _, H, Q => Q false H
  | .cons e r, loc, H, Q => WT Γ e loc H fun b H => if b then Q true H else WTo Γ r loc H Q
end
abbrev SQ := Fl → Loc → AH → Prop
noncomputable def turns (B : Loc → AH → SQ → Prop) (ok : AH → Prop) (x : Nat) : List AV → Loc → AH → SQ → Prop
  | [], loc, H, Q => ok H ∧ Q .next loc H
  | v :: r, loc, H, Q => ok H ∧ B (loc.set x (some v)) H fun f loc' H' => match f with
    | .next => turns B ok x r loc' H' Q
    | .ret w => Q (.ret w) loc' H'
noncomputable def whiles (T : Loc → AH → (Bool → AH → Prop) → Prop) (B : Loc → AH → SQ → Prop) : Nat → Loc → AH → SQ → Prop
  | 0, _, _, _ => False
  | n + 1, loc, H, Q => T loc H fun b H => if b then B loc H fun f loc' H' => match f with
      | .next => whiles T B n loc' H' Q
      | .ret w => Q (.ret w) loc' H'
    else Q .next loc H
noncomputable def setAll : List Nat → List AV → Loc → Loc
  | x :: xs, v :: vs, loc => setAll xs vs (loc.set x (some v))
  | _, _, loc => loc
/-- range(a, n, st) with st above nought -/
noncomputable def upto (a n st : Int) : List AV := (List.range (if a < n then ((n - a - 1) / st + 1).toNat else 0)).map fun (i : Nat) => AV.int (a + i * st)
mutual
noncomputable def WS (Γ : Orc) : IS → Loc → AH → SQ → Prop
  | .assign x e, loc, H, Q => WE Γ e loc H fun v H => Q .next (loc.set x (some v)) H
  | .assignT xs e, loc, H, Q => WE Γ e loc H (onRef fun r H => ∃ vs, H[r]? = some (.tup vs) ∧ vs.length = xs.length ∧ Q .next (setAll xs vs loc) H)
  | .setAttr o n e, loc, H, Q => WE Γ e loc H fun v H => WE Γ o loc H fun x H => setAttrA x n v H fun H => Q .next loc H
  | .setItem o i e, loc, H, Q => WE Γ e loc H fun v H => WE Γ o loc H fun x H => WE Γ i loc H fun k H => setItemA x k v H fun H => Q .next loc H
  | .aug x op e, loc, H, Q => (op = .add ∨ op = .shr) ∧ vget loc x fun v => WE Γ e loc H fun y H => onInt2 (fun i j H => binA op (.int i) (.int j) H fun z H => Q .next (loc.set x (some z)) H) v y H
  | .expr e, loc, H, Q => WE Γ e loc H fun v H => IsPrim v ∧ Q .next loc H
  | .ret e, loc, H, Q => WE Γ e loc H fun v H => Q (.ret v) loc H
  | .ifs t a b, loc, H, Q => WT Γ t loc H fun c H => if c then WSs Γ a loc H Q else WSs Γ b loc H Q
  | .whil t b, loc, H, Q => ∃ n, whiles (fun loc H Q => WT Γ t loc H Q) (fun loc H Q => WSs Γ b loc H Q) n loc H Q
  | .forL x src b, loc, H, Q => WE Γ src loc H (onRef fun r H => ∃ vs, H[r]? = some (.list vs) ∧ vs.length < 100000 ∧ turns (fun loc H Q => WSs Γ b loc H Q) (fun H => H[r]? = some (.list vs)) x vs loc H Q)
  | .forR x n b, loc, H, Q => WE Γ n loc H (onInt fun k H => (-100000 < k ∧ k < 100000) ∧ turns (fun loc H Q => WSs Γ b loc H Q) (fun _ => True) x (upto 0 k 1) loc H Q)
  | .forR3 x a n st b, loc, H, Q => WE Γ a loc H fun a H => WE Γ n loc H fun n H => WE Γ st loc H fun st H => onInt2 (fun a n H => onInt (fun st H => (0 ≤ a ∧ a < 100000 ∧ 0 ≤ n ∧ n < 100000 ∧ 0 < st ∧ st < 100000) ∧ turns (fun loc H Q => WSs Γ b loc H Q) (fun _ => True) x (upto a n st) loc H Q) st H) a n H
  | .bad, _, _, _ => False
noncomputable def WSs (Γ : Orc) : ISs → Loc → AH → SQ → Prop
  | .nil, loc, H, Q => Q .next loc H
  | .cons st r, loc, H, Q => WS Γ st loc H fun f loc H => match f with
    | .next => WSs Γ r loc H Q
    | .ret w => Q (.ret w) loc H
end
end Mine
end
section
open PySem PySem.W PySem.Calls PyProof.Rows
namespace Mine
noncomputable def ir_two_at : ISs := .cons (.ret (.bin .add (.bin .mul (.idx (.var 0) (.var 1)) (.int 256)) (.idx (.var 0) (.bin .add (.var 1) (.int 1))))) .nil
noncomputable def vs_two_at : List Str := [⟨⟨[111, 99, 116, 101, 116, 115]⟩⟩, ⟨⟨[97, 116]⟩⟩]
noncomputable def ir_four_at : ISs := .cons (.ret (.bin .add (.bin .mul (.call 72 (.cons (.var 0) (.cons (.var 1) .nil))) (.int 65536)) (.call 72 (.cons (.var 0) (.cons (.bin .add (.var 1) (.int 2)) .nil))))) .nil
noncomputable def vs_four_at : List Str := [⟨⟨[111, 99, 116, 101, 116, 115]⟩⟩, ⟨⟨[97, 116]⟩⟩]
noncomputable def ir_put_two_1 : ISs := .cons (.setItem (.var 0) (.bin .add (.var 1) (.int 1)) (.bin .mod (.var 2) (.int 256))) .nil
noncomputable def ir_put_two : ISs := .cons (.setItem (.var 0) (.var 1) (.bin .fdiv (.var 2) (.int 256))) ir_put_two_1
noncomputable def vs_put_two : List Str := [⟨⟨[111, 99, 116, 101, 116, 115]⟩⟩, ⟨⟨[97, 116]⟩⟩, ⟨⟨[110, 117, 109, 98, 101, 114]⟩⟩]
noncomputable def ir_put_four_1 : ISs := .cons (.expr (.call 86 (.cons (.var 0) (.cons (.bin .add (.var 1) (.int 2)) (.cons (.bin .mod (.var 2) (.int 65536)) .nil))))) .nil
noncomputable def ir_put_four : ISs := .cons (.expr (.call 86 (.cons (.var 0) (.cons (.var 1) (.cons (.bin .fdiv (.var 2) (.int 65536)) .nil))))) ir_put_four_1
noncomputable def vs_put_four : List Str := [⟨⟨[111, 99, 116, 101, 116, 115]⟩⟩, ⟨⟨[97, 116]⟩⟩, ⟨⟨[110, 117, 109, 98, 101, 114]⟩⟩]
noncomputable def ir_four_octets_2 : ISs := .cons (.ret (.bi .bytes (.cons (.var 1) .nil))) .nil
noncomputable def ir_four_octets_1 : ISs := .cons (.expr (.call 93 (.cons (.var 1) (.cons (.int 0) (.cons (.var 0) .nil))))) ir_four_octets_2
noncomputable def ir_four_octets : ISs := .cons (.assign 1 (.bi .barr (.cons (.int 4) .nil))) ir_four_octets_1
noncomputable def vs_four_octets : List Str := [⟨⟨[110, 117, 109, 98, 101, 114]⟩⟩, ⟨⟨[102, 111, 117, 110, 100]⟩⟩]
noncomputable def ir_is_leaf : ISs := .cons (.ret (.ors (.cons (.cmp .eq (.var 0) (.glob 13)) (.cons (.cmp .eq (.var 0) (.glob 10)) .nil)))) .nil
noncomputable def vs_is_leaf : List Str := [⟨⟨[107, 105, 110, 100]⟩⟩]
noncomputable def ir_head_size_1 : ISs := .cons (.ret (.int 12)) .nil
noncomputable def ir_head_size_0a : ISs := .cons (.ret (.int 8)) .nil
noncomputable def ir_head_size : ISs := .cons (.ifs (.call 107 (.cons (.var 0) .nil)) ir_head_size_0a .nil) ir_head_size_1
noncomputable def vs_head_size : List Str := [⟨⟨[107, 105, 110, 100]⟩⟩]
noncomputable def ir_put_varint_4 : ISs := .cons (.ret (.bi .bytes (.cons (.var 2) .nil))) .nil
noncomputable def ir_put_varint_3 : ISs := .cons (.expr (.meth .reverse (.var 2) .nil)) ir_put_varint_4
noncomputable def ir_put_varint_2a_2b_1 : ISs := .cons (.aug 1 .shr (.int 7)) .nil
noncomputable def ir_put_varint_2a_2b : ISs := .cons (.expr (.meth .append (.var 2) (.cons (.bin .bor (.bin .band (.var 1) (.int 127)) (.int 128)) .nil))) ir_put_varint_2a_2b_1
noncomputable def ir_put_varint_2a_2 : ISs := .cons (.forR 3 (.int 8) ir_put_varint_2a_2b) .nil
noncomputable def ir_put_varint_2a_1 : ISs := .cons (.aug 1 .shr (.int 8)) ir_put_varint_2a_2
noncomputable def ir_put_varint_2a : ISs := .cons (.expr (.meth .append (.var 2) (.cons (.bin .band (.var 1) (.int 255)) .nil))) ir_put_varint_2a_1
noncomputable def ir_put_varint_2b_2a_1 : ISs := .cons (.aug 1 .shr (.int 7)) .nil
noncomputable def ir_put_varint_2b_2a : ISs := .cons (.expr (.meth .append (.var 2) (.cons (.bin .bor (.bin .band (.var 1) (.int 127)) (.int 128)) .nil))) ir_put_varint_2b_2a_1
noncomputable def ir_put_varint_2b_2 : ISs := .cons (.whil (.cmp .gt (.var 1) (.int 0)) ir_put_varint_2b_2a) .nil
noncomputable def ir_put_varint_2b_1 : ISs := .cons (.aug 1 .shr (.int 7)) ir_put_varint_2b_2
noncomputable def ir_put_varint_2b : ISs := .cons (.expr (.meth .append (.var 2) (.cons (.bin .band (.var 1) (.int 127)) .nil))) ir_put_varint_2b_1
noncomputable def ir_put_varint_2 : ISs := .cons (.ifs (.cmp .ge (.var 1) (.bin .pow (.int 2) (.int 56))) ir_put_varint_2a ir_put_varint_2b) ir_put_varint_3
noncomputable def ir_put_varint_1 : ISs := .cons (.assign 2 (.list .nil)) ir_put_varint_2
noncomputable def ir_put_varint : ISs := .cons (.assign 1 (.bin .mod (.var 0) (.glob 18446744073709551616))) ir_put_varint_1
noncomputable def vs_put_varint : List Str := [⟨⟨[110]⟩⟩, ⟨⟨[114, 101, 115, 116]⟩⟩, ⟨⟨[102, 111, 117, 110, 100]⟩⟩, ⟨⟨[116, 117, 114, 110]⟩⟩]
noncomputable def ir_get_varint_2 : ISs := .cons .bad .nil
noncomputable def ir_get_varint_1b_5a : ISs := .cons (.ret (.tup (.cons (.var 2) (.cons (.var 1) .nil)))) .nil
noncomputable def ir_get_varint_1b_5 : ISs := .cons (.ifs (.cmp .lt (.var 4) (.int 128)) ir_get_varint_1b_5a .nil) .nil
noncomputable def ir_get_varint_1b_4 : ISs := .cons (.assign 2 (.bin .bor (.bin .shl (.var 2) (.int 7)) (.bin .band (.var 4) (.int 127)))) ir_get_varint_1b_5
noncomputable def ir_get_varint_1b_3a : ISs := .cons (.ret (.tup (.cons (.bin .bor (.bin .shl (.var 2) (.int 8)) (.var 4)) (.cons (.var 1) .nil)))) .nil
noncomputable def ir_get_varint_1b_3 : ISs := .cons (.ifs (.cmp .eq (.var 3) (.int 8)) ir_get_varint_1b_3a .nil) ir_get_varint_1b_4
noncomputable def ir_get_varint_1b_2 : ISs := .cons (.aug 1 .add (.int 1)) ir_get_varint_1b_3
noncomputable def ir_get_varint_1b_1 : ISs := .cons (.assign 4 (.idx (.var 0) (.var 1))) ir_get_varint_1b_2
noncomputable def ir_get_varint_1b_0a : ISs := .cons .bad .nil
noncomputable def ir_get_varint_1b : ISs := .cons (.ifs (.cmp .ge (.var 1) (.bi .len (.cons (.var 0) .nil))) ir_get_varint_1b_0a .nil) ir_get_varint_1b_1
noncomputable def ir_get_varint_1 : ISs := .cons (.forR 3 (.int 9) ir_get_varint_1b) ir_get_varint_2
noncomputable def ir_get_varint : ISs := .cons (.assign 2 (.int 0)) ir_get_varint_1
noncomputable def vs_get_varint : List Str := [⟨⟨[111, 99, 116, 101, 116, 115]⟩⟩, ⟨⟨[97, 116]⟩⟩, ⟨⟨[110, 117, 109, 98, 101, 114]⟩⟩, ⟨⟨[116, 117, 114, 110]⟩⟩, ⟨⟨[111, 99, 116, 101, 116]⟩⟩]
noncomputable def ir_cost : ISs := .cons (.ret (.bin .add (.glob 2) (.bi .max (.cons (.glob 4) (.cons (.bi .len (.cons (.var 0) .nil)) .nil))))) .nil
noncomputable def vs_cost : List Str := [⟨⟨[114, 97, 119]⟩⟩]
noncomputable def ir_total : ISs := .cons (.ret (.bi .sum (.cons (.compL [] (.call 135 (.cons (.var 0) .nil)) (.var 0)) .nil))) .nil
noncomputable def vs_total : List Str := [⟨⟨[114, 97, 119, 115]⟩⟩]
noncomputable def ir_base_of : ISs := .cons (.ret (.ite (.cmp .eq (.var 0) (.int 1)) (.glob 32) (.int 0))) .nil
noncomputable def vs_base_of : List Str := [⟨⟨[112, 97, 103, 101]⟩⟩]
noncomputable def ir_capacity : ISs := .cons (.ret (.bin .sub (.bin .sub (.var 2) (.call 147 (.cons (.var 0) .nil))) (.call 114 (.cons (.var 1) .nil)))) .nil
noncomputable def vs_capacity : List Str := [⟨⟨[112, 97, 103, 101]⟩⟩, ⟨⟨[107, 105, 110, 100]⟩⟩, ⟨⟨[117, 115, 97, 98, 108, 101]⟩⟩]
noncomputable def ir_child_of : ISs := .cons (.ret (.call 79 (.cons (.var 0) (.cons (.int 0) .nil)))) .nil
noncomputable def vs_child_of : List Str := [⟨⟨[114, 97, 119]⟩⟩]
noncomputable def ir_with_child : ISs := .cons (.ret (.bin .add (.call 100 (.cons (.var 1) .nil)) (.slcL (.var 0) (.int 4)))) .nil
noncomputable def vs_with_child : List Str := [⟨⟨[114, 97, 119]⟩⟩, ⟨⟨[112, 97, 103, 101]⟩⟩]
noncomputable def ir_leaf_rowid_2 : ISs := .cons (.ret (.var 3)) .nil
noncomputable def ir_leaf_rowid_1 : ISs := .cons (.assignT [3, 2] (.call 128 (.cons (.var 0) (.cons (.var 2) .nil)))) ir_leaf_rowid_2
noncomputable def ir_leaf_rowid : ISs := .cons (.assignT [1, 2] (.call 128 (.cons (.var 0) (.cons (.int 0) .nil)))) ir_leaf_rowid_1
noncomputable def vs_leaf_rowid : List Str := [⟨⟨[114, 97, 119]⟩⟩, ⟨⟨[115, 105, 122, 101]⟩⟩, ⟨⟨[97, 116]⟩⟩, ⟨⟨[114, 111, 119, 105, 100]⟩⟩]
noncomputable def ir_Content___init___2 : ISs := .cons (.setAttr (.var 0) .right (.var 3)) .nil
noncomputable def ir_Content___init___1 : ISs := .cons (.setAttr (.var 0) .raws (.var 2)) ir_Content___init___2
noncomputable def ir_Content___init__ : ISs := .cons (.setAttr (.var 0) .kind (.var 1)) ir_Content___init___1
noncomputable def vs_Content___init__ : List Str := [⟨⟨[115, 101, 108, 102]⟩⟩, ⟨⟨[107, 105, 110, 100]⟩⟩, ⟨⟨[114, 97, 119, 115]⟩⟩, ⟨⟨[114, 105, 103, 104, 116]⟩⟩]
noncomputable def ir_fits : ISs := .cons (.ret (.cmp .le (.call 140 (.cons (.attr (.var 2) .raws) .nil)) (.call 154 (.cons (.var 1) (.cons (.attr (.var 2) .kind) (.cons (.attr (.var 0) .page_size) .nil)))))) .nil
noncomputable def vs_fits : List Str := [⟨⟨[112, 97, 103, 101, 114]⟩⟩, ⟨⟨[112, 97, 103, 101]⟩⟩, ⟨⟨[99, 111, 110, 116, 101, 110, 116]⟩⟩]
noncomputable def ir_write_content_8 : ISs := .cons (.expr (.um 3 (.var 0) (.cons (.var 1) (.cons (.bin .add (.bin .add (.var 11) (.bi .bytes (.cons (.bin .sub (.var 7) (.bi .len (.cons (.var 11) .nil))) .nil))) (.meth .join (.byt []) (.cons (.var 6) .nil))) .nil)))) .nil
noncomputable def ir_write_content_7 : ISs := .cons (.expr (.meth .reverse (.var 6) .nil)) ir_write_content_8
noncomputable def ir_write_content_6 : ISs := .cons (.assign 11 (.bin .add (.bin .add (.slcH (.um 2 (.var 0) (.cons (.var 1) .nil)) (.var 4)) (.var 10)) (.meth .join (.byt []) (.cons (.var 5) .nil)))) ir_write_content_7
noncomputable def ir_write_content_5a : ISs := .cons (.assign 10 (.bin .add (.var 10) (.call 100 (.cons (.attr (.var 2) .right) .nil)))) .nil
noncomputable def ir_write_content_5 : ISs := .cons (.ifs (.unot (.call 107 (.cons (.attr (.var 2) .kind) .nil))) ir_write_content_5a .nil) ir_write_content_6
noncomputable def ir_write_content_4 : ISs := .cons (.assign 10 (.bin .add (.bin .add (.bin .add (.bi .bytes (.cons (.list (.cons (.attr (.var 2) .kind) (.cons (.int 0) (.cons (.int 0) .nil)))) .nil)) (.toB (.bi .len (.cons (.attr (.var 2) .raws) .nil)) (.int 2))) (.toB (.var 7) (.int 2))) (.bi .bytes (.cons (.int 1) .nil)))) ir_write_content_5
noncomputable def ir_write_content_3b_3 : ISs := .cons (.expr (.meth .append (.var 6) (.cons (.var 9) .nil))) .nil
noncomputable def ir_write_content_3b_2 : ISs := .cons (.expr (.meth .append (.var 5) (.cons (.toB (.var 7) (.glob 2)) .nil))) ir_write_content_3b_3
noncomputable def ir_write_content_3b_1 : ISs := .cons (.assign 7 (.bin .sub (.var 7) (.bi .len (.cons (.var 9) .nil)))) ir_write_content_3b_2
noncomputable def ir_write_content_3b : ISs := .cons (.assign 9 (.bin .add (.var 8) (.bi .bytes (.cons (.bi .max (.cons (.int 0) (.cons (.bin .sub (.glob 4) (.bi .len (.cons (.var 8) .nil))) .nil))) .nil)))) ir_write_content_3b_1
noncomputable def ir_write_content_3 : ISs := .cons (.forL 8 (.attr (.var 2) .raws) ir_write_content_3b) ir_write_content_4
noncomputable def ir_write_content_2 : ISs := .cons (.assignT [5, 6, 7] (.tup (.cons (.list .nil) (.cons (.list .nil) (.cons (.var 3) .nil))))) ir_write_content_3
noncomputable def ir_write_content_1 : ISs := .cons (.assignT [3, 4] (.tup (.cons (.attr (.var 0) .page_size) (.cons (.call 147 (.cons (.var 1) .nil)) .nil)))) ir_write_content_2
noncomputable def ir_write_content_0a : ISs := .cons .bad .nil
noncomputable def ir_write_content : ISs := .cons (.ifs (.unot (.call 210 (.cons (.var 0) (.cons (.var 1) (.cons (.var 2) .nil))))) ir_write_content_0a .nil) ir_write_content_1
noncomputable def vs_write_content : List Str := [⟨⟨[112, 97, 103, 101, 114]⟩⟩, ⟨⟨[112, 97, 103, 101]⟩⟩, ⟨⟨[99, 111, 110, 116, 101, 110, 116]⟩⟩, ⟨⟨[115, 105, 122, 101]⟩⟩, ⟨⟨[98, 97, 115, 101]⟩⟩, ⟨⟨[112, 111, 105, 110, 116, 101, 114, 115]⟩⟩, ⟨⟨[99, 101, 108, 108, 115]⟩⟩, ⟨⟨[97, 116]⟩⟩, ⟨⟨[114, 97, 119]⟩⟩, ⟨⟨[112, 97, 100, 100, 101, 100]⟩⟩, ⟨⟨[104, 101, 97, 100]⟩⟩, ⟨⟨[102, 114, 111, 110, 116]⟩⟩]
noncomputable def ir_append_chain_4 : ISs := .cons (.ret (.var 3)) .nil
noncomputable def ir_append_chain_3d_4 : ISs := .cons (.assign 4 (.var 7)) .nil
noncomputable def ir_append_chain_3d_3 : ISs := .cons (.expr (.um 3 (.var 0) (.cons (.var 4) (.cons (.bin .add (.bin .add (.call 100 (.cons (.var 7) .nil)) (.var 6)) (.bi .bytes (.cons (.bin .sub (.var 2) (.bi .len (.cons (.var 6) .nil))) .nil))) .nil)))) ir_append_chain_3d_4
noncomputable def ir_append_chain_3d_2a : ISs := .cons (.assign 7 (.um 4 (.var 0) .nil)) .nil
noncomputable def ir_append_chain_3d_2 : ISs := .cons (.ifs (.cmp .lt (.bin .add (.var 5) (.var 2)) (.bi .len (.cons (.var 1) .nil))) ir_append_chain_3d_2a .nil) ir_append_chain_3d_3
noncomputable def ir_append_chain_3d_1 : ISs := .cons (.assign 7 (.int 0)) ir_append_chain_3d_2
noncomputable def ir_append_chain_3d : ISs := .cons (.assign 6 (.slcB (.var 1) (.var 5) (.bin .add (.var 5) (.var 2)))) ir_append_chain_3d_1
noncomputable def ir_append_chain_3 : ISs := .cons (.forR3 5 (.int 0) (.bi .len (.cons (.var 1) .nil)) (.var 2) ir_append_chain_3d) ir_append_chain_4
noncomputable def ir_append_chain_2 : ISs := .cons (.assign 4 (.var 3)) ir_append_chain_3
noncomputable def ir_append_chain_1 : ISs := .cons (.assign 3 (.um 4 (.var 0) .nil)) ir_append_chain_2
noncomputable def ir_append_chain : ISs := .cons (.assign 2 (.bin .sub (.attr (.var 0) .page_size) (.int 4))) ir_append_chain_1
noncomputable def vs_append_chain : List Str := [⟨⟨[112, 97, 103, 101, 114]⟩⟩, ⟨⟨[111, 99, 116, 101, 116, 115]⟩⟩, ⟨⟨[114, 111, 111, 109]⟩⟩, ⟨⟨[102, 105, 114, 115, 116]⟩⟩, ⟨⟨[112, 97, 103, 101]⟩⟩, ⟨⟨[97, 116]⟩⟩, ⟨⟨[112, 97, 114, 116]⟩⟩, ⟨⟨[102, 111, 108, 108, 111, 119, 105, 110, 103]⟩⟩]
noncomputable def ir_packed_rows_3 : ISs := .cons (.ret (.var 2)) .nil
noncomputable def ir_packed_rows_2b_2 : ISs := .cons (.assign 3 (.bin .add (.var 3) (.call 135 (.cons (.var 4) .nil)))) .nil
noncomputable def ir_packed_rows_2b_1 : ISs := .cons (.expr (.meth .append (.idx (.var 2) (.neg (.int 1))) (.cons (.var 4) .nil))) ir_packed_rows_2b_2
noncomputable def ir_packed_rows_2b_0a_1 : ISs := .cons (.assign 3 (.int 0)) .nil
noncomputable def ir_packed_rows_2b_0a : ISs := .cons (.expr (.meth .append (.var 2) (.cons (.list .nil) .nil))) ir_packed_rows_2b_0a_1
noncomputable def ir_packed_rows_2b : ISs := .cons (.ifs (.ands (.cons (.cmp .gt (.bin .add (.var 3) (.call 135 (.cons (.var 4) .nil))) (.var 1)) (.cons (.cmp .ne (.idx (.var 2) (.neg (.int 1))) (.list .nil)) .nil))) ir_packed_rows_2b_0a .nil) ir_packed_rows_2b_1
noncomputable def ir_packed_rows_2 : ISs := .cons (.forL 4 (.var 0) ir_packed_rows_2b) ir_packed_rows_3
noncomputable def ir_packed_rows_1 : ISs := .cons (.assign 3 (.int 0)) ir_packed_rows_2
noncomputable def ir_packed_rows : ISs := .cons (.assign 2 (.list (.cons (.list .nil) .nil))) ir_packed_rows_1
noncomputable def vs_packed_rows : List Str := [⟨⟨[114, 97, 119, 115]⟩⟩, ⟨⟨[114, 111, 111, 109]⟩⟩, ⟨⟨[112, 97, 103, 101, 115]⟩⟩, ⟨⟨[117, 115, 101, 100]⟩⟩, ⟨⟨[114, 97, 119]⟩⟩]
noncomputable def ir_packed_between_5 : ISs := .cons (.ret (.tup (.cons (.var 2) (.cons (.var 3) .nil)))) .nil
noncomputable def ir_packed_between_4a_2 : ISs := .cons (.expr (.meth .append (.idx (.var 2) (.neg (.int 1))) (.cons (.var 6) .nil))) .nil
noncomputable def ir_packed_between_4a_1 : ISs := .cons (.expr (.meth .append (.var 3) (.cons (.meth .pop (.idx (.var 2) (.neg (.int 2))) .nil) .nil))) ir_packed_between_4a_2
noncomputable def ir_packed_between_4a : ISs := .cons (.assign 6 (.meth .pop (.var 3) .nil)) ir_packed_between_4a_1
noncomputable def ir_packed_between_4 : ISs := .cons (.ifs (.ands (.cons (.cmp .gt (.bi .len (.cons (.var 2) .nil)) (.int 1)) (.cons (.cmp .eq (.idx (.var 2) (.neg (.int 1))) (.list .nil)) .nil))) ir_packed_between_4a .nil) ir_packed_between_5
noncomputable def ir_packed_between_3b_0a_2 : ISs := .cons (.assign 4 (.int 0)) .nil
noncomputable def ir_packed_between_3b_0a_1 : ISs := .cons (.expr (.meth .append (.var 2) (.cons (.list .nil) .nil))) ir_packed_between_3b_0a_2
noncomputable def ir_packed_between_3b_0a : ISs := .cons (.expr (.meth .append (.var 3) (.cons (.var 5) .nil))) ir_packed_between_3b_0a_1
noncomputable def ir_packed_between_3b_0b_1 : ISs := .cons (.assign 4 (.bin .add (.var 4) (.call 135 (.cons (.var 5) .nil)))) .nil
noncomputable def ir_packed_between_3b_0b : ISs := .cons (.expr (.meth .append (.idx (.var 2) (.neg (.int 1))) (.cons (.var 5) .nil))) ir_packed_between_3b_0b_1
noncomputable def ir_packed_between_3b : ISs := .cons (.ifs (.ands (.cons (.cmp .gt (.bin .add (.var 4) (.call 135 (.cons (.var 5) .nil))) (.var 1)) (.cons (.cmp .ne (.idx (.var 2) (.neg (.int 1))) (.list .nil)) .nil))) ir_packed_between_3b_0a ir_packed_between_3b_0b) .nil
noncomputable def ir_packed_between_3 : ISs := .cons (.forL 5 (.var 0) ir_packed_between_3b) ir_packed_between_4
noncomputable def ir_packed_between_2 : ISs := .cons (.assign 4 (.int 0)) ir_packed_between_3
noncomputable def ir_packed_between_1 : ISs := .cons (.assign 3 (.list .nil)) ir_packed_between_2
noncomputable def ir_packed_between : ISs := .cons (.assign 2 (.list (.cons (.list .nil) .nil))) ir_packed_between_1
noncomputable def vs_packed_between : List Str := [⟨⟨[114, 97, 119, 115]⟩⟩, ⟨⟨[114, 111, 111, 109]⟩⟩, ⟨⟨[112, 97, 103, 101, 115]⟩⟩, ⟨⟨[109, 105, 100, 100, 108, 101, 115]⟩⟩, ⟨⟨[117, 115, 101, 100]⟩⟩, ⟨⟨[114, 97, 119]⟩⟩, ⟨⟨[108, 97, 115, 116]⟩⟩]
noncomputable def ir_new_pages : ISs := .cons (.ret (.compR [0] (.um 4 (.var 1) .nil) (.var 1))) .nil
noncomputable def vs_new_pages : List Str := [⟨⟨[112, 97, 103, 101, 114]⟩⟩, ⟨⟨[109, 97, 110, 121]⟩⟩]
noncomputable def ir_store_leaves_5 : ISs := .cons (.ret (.tup (.cons (.compR [4, 7] (.bin .add (.call 100 (.cons (.idx (.var 2) (.var 0)) .nil)) (.idx (.var 1) (.var 0))) (.bi .len (.cons (.var 4) .nil))) (.cons (.idx (.var 7) (.neg (.int 1))) .nil)))) .nil
noncomputable def ir_store_leaves_4b : ISs := .cons (.expr (.call 217 (.cons (.var 0) (.cons (.idx (.var 7) (.var 8)) (.cons (.new 199 (.cons (.var 1) (.cons (.idx (.var 5) (.var 8)) (.cons (.int 0) .nil)))) .nil))))) .nil
noncomputable def ir_store_leaves_4 : ISs := .cons (.forR 8 (.bi .len (.cons (.var 5) .nil)) ir_store_leaves_4b) ir_store_leaves_5
noncomputable def ir_store_leaves_3 : ISs := .cons (.assign 7 (.call 243 (.cons (.var 0) (.cons (.bi .len (.cons (.var 5) .nil)) .nil)))) ir_store_leaves_4
noncomputable def ir_store_leaves_2a_1b : ISs := .cons (.expr (.meth .append (.var 4) (.cons (.call 121 (.cons (.call 175 (.cons (.idx (.var 6) (.neg (.int 1))) .nil)) .nil)) .nil))) .nil
noncomputable def ir_store_leaves_2a_1 : ISs := .cons (.forL 6 (.slcH (.var 5) (.neg (.int 1))) ir_store_leaves_2a_1b) .nil
noncomputable def ir_store_leaves_2a : ISs := .cons (.assign 5 (.call 231 (.cons (.var 2) (.cons (.var 3) .nil)))) ir_store_leaves_2a_1
noncomputable def ir_store_leaves_2b : ISs := .cons (.assignT [5, 4] (.call 238 (.cons (.var 2) (.cons (.var 3) .nil)))) .nil
noncomputable def ir_store_leaves_2 : ISs := .cons (.ifs (.cmp .eq (.var 1) (.glob 13)) ir_store_leaves_2a ir_store_leaves_2b) ir_store_leaves_3
noncomputable def ir_store_leaves_1 : ISs := .cons (.assign 4 (.list .nil)) ir_store_leaves_2
noncomputable def ir_store_leaves : ISs := .cons (.assign 3 (.call 154 (.cons (.int 0) (.cons (.var 1) (.cons (.attr (.var 0) .page_size) .nil))))) ir_store_leaves_1
noncomputable def vs_store_leaves : List Str := [⟨⟨[112, 97, 103, 101, 114]⟩⟩, ⟨⟨[107, 105, 110, 100]⟩⟩, ⟨⟨[114, 97, 119, 115]⟩⟩, ⟨⟨[114, 111, 111, 109]⟩⟩, ⟨⟨[109, 105, 100, 100, 108, 101, 115]⟩⟩, ⟨⟨[112, 97, 103, 101, 115]⟩⟩, ⟨⟨[112, 97, 103, 101]⟩⟩, ⟨⟨[110, 117, 109, 98, 101, 114, 115]⟩⟩, ⟨⟨[107]⟩⟩]
noncomputable def ir_store_inner_3 : ISs := .cons (.ret (.tup (.cons (.compR [5, 6] (.call 168 (.cons (.idx (.var 1) (.var 0)) (.cons (.idx (.var 2) (.var 0)) .nil))) (.bi .len (.cons (.var 5) .nil))) (.cons (.idx (.var 6) (.neg (.int 1))) .nil)))) .nil
noncomputable def ir_store_inner_2b_2 : ISs := .cons (.expr (.call 217 (.cons (.var 0) (.cons (.idx (.var 6) (.var 7)) (.cons (.new 199 (.cons (.var 1) (.cons (.idx (.var 4) (.var 7)) (.cons (.var 8) .nil)))) .nil))))) .nil
noncomputable def ir_store_inner_2b_1a : ISs := .cons (.assign 8 (.call 161 (.cons (.idx (.var 5) (.var 7)) .nil))) .nil
noncomputable def ir_store_inner_2b_1 : ISs := .cons (.ifs (.cmp .lt (.var 7) (.bi .len (.cons (.var 5) .nil))) ir_store_inner_2b_1a .nil) ir_store_inner_2b_2
noncomputable def ir_store_inner_2b : ISs := .cons (.assign 8 (.var 3)) ir_store_inner_2b_1
noncomputable def ir_store_inner_2 : ISs := .cons (.forR 7 (.bi .len (.cons (.var 4) .nil)) ir_store_inner_2b) ir_store_inner_3
noncomputable def ir_store_inner_1 : ISs := .cons (.assign 6 (.call 243 (.cons (.var 0) (.cons (.bi .len (.cons (.var 4) .nil)) .nil)))) ir_store_inner_2
noncomputable def ir_store_inner : ISs := .cons (.assignT [4, 5] (.call 238 (.cons (.var 2) (.cons (.call 154 (.cons (.int 0) (.cons (.var 1) (.cons (.attr (.var 0) .page_size) .nil)))) .nil)))) ir_store_inner_1
noncomputable def vs_store_inner : List Str := [⟨⟨[112, 97, 103, 101, 114]⟩⟩, ⟨⟨[107, 105, 110, 100]⟩⟩, ⟨⟨[99, 101, 108, 108, 115]⟩⟩, ⟨⟨[114, 105, 103, 104, 116]⟩⟩, ⟨⟨[112, 97, 103, 101, 115]⟩⟩, ⟨⟨[109, 105, 100, 100, 108, 101, 115]⟩⟩, ⟨⟨[110, 117, 109, 98, 101, 114, 115]⟩⟩, ⟨⟨[107]⟩⟩, ⟨⟨[98, 101, 104, 105, 110, 100]⟩⟩]
noncomputable def ir_PageStore___init___2 : ISs := .cons (.setAttr (.var 0) .spare (.list .nil)) .nil
noncomputable def ir_PageStore___init___1 : ISs := .cons (.setAttr (.var 0) .pages (.list .nil)) ir_PageStore___init___2
noncomputable def ir_PageStore___init__ : ISs := .cons (.setAttr (.var 0) .page_size (.var 1)) ir_PageStore___init___1
noncomputable def vs_PageStore___init__ : List Str := [⟨⟨[115, 101, 108, 102]⟩⟩, ⟨⟨[112, 97, 103, 101, 95, 115, 105, 122, 101]⟩⟩]
noncomputable def ir_PageStore_page_count : ISs := .cons (.ret (.bi .len (.cons (.attr (.var 0) .pages) .nil))) .nil
noncomputable def vs_PageStore_page_count : List Str := [⟨⟨[115, 101, 108, 102]⟩⟩]
noncomputable def ir_PageStore_read_page_1 : ISs := .cons (.ret (.idx (.attr (.var 0) .pages) (.bin .sub (.var 1) (.int 1)))) .nil
noncomputable def ir_PageStore_read_page_0a : ISs := .cons .bad .nil
noncomputable def ir_PageStore_read_page : ISs := .cons (.ifs (.ors (.cons (.cmp .lt (.var 1) (.int 1)) (.cons (.cmp .gt (.var 1) (.bi .len (.cons (.attr (.var 0) .pages) .nil))) .nil))) ir_PageStore_read_page_0a .nil) ir_PageStore_read_page_1
noncomputable def vs_PageStore_read_page : List Str := [⟨⟨[115, 101, 108, 102]⟩⟩, ⟨⟨[112, 97, 103, 101]⟩⟩]
noncomputable def ir_PageStore_write_page_1 : ISs := .cons (.setItem (.attr (.var 0) .pages) (.bin .sub (.var 1) (.int 1)) (.bi .bytes (.cons (.var 2) .nil))) .nil
noncomputable def ir_PageStore_write_page_0a : ISs := .cons .bad .nil
noncomputable def ir_PageStore_write_page : ISs := .cons (.ifs (.ors (.cons (.cmp .ne (.bi .len (.cons (.var 2) .nil)) (.attr (.var 0) .page_size)) (.cons (.cmp .lt (.var 1) (.int 1)) (.cons (.cmp .gt (.var 1) (.bi .len (.cons (.attr (.var 0) .pages) .nil))) .nil)))) ir_PageStore_write_page_0a .nil) ir_PageStore_write_page_1
noncomputable def vs_PageStore_write_page : List Str := [⟨⟨[115, 101, 108, 102]⟩⟩, ⟨⟨[112, 97, 103, 101]⟩⟩, ⟨⟨[111, 99, 116, 101, 116, 115]⟩⟩]
noncomputable def ir_PageStore_extend_1 : ISs := .cons (.ret (.bi .len (.cons (.attr (.var 0) .pages) .nil))) .nil
noncomputable def ir_PageStore_extend : ISs := .cons (.expr (.meth .append (.attr (.var 0) .pages) (.cons (.bi .bytes (.cons (.attr (.var 0) .page_size) .nil)) .nil))) ir_PageStore_extend_1
noncomputable def vs_PageStore_extend : List Str := [⟨⟨[115, 101, 108, 102]⟩⟩]
noncomputable def ir__law_pool_4 : ISs := .cons (.ret (.list (.cons (.bin .mul (.var 3) (.bi .int (.cons (.cmp .ge (.var 3) (.bin .pow (.int 10) (.int 18))) .nil))) (.cons (.var 4) .nil)))) .nil
noncomputable def ir__law_pool_3 : ISs := .cons (.assign 4 (.bin .mod (.bi .int (.cons (.bin .mul (.bin .add (.bin .add (.bin .add (.bin .mod (.bi .int (.cons (.var 3) .nil)) (.int 2147483629)) (.bin .mul (.bin .mul (.int 7919) (.var 1)) (.var 1))) (.bin .mul (.int 31) (.var 1))) (.int 17)) (.int 48271)) .nil)) (.int 2147483647))) ir__law_pool_4
noncomputable def ir__law_pool_2 : ISs := .cons (.assign 3 (.bi .max (.cons (.bi .int (.cons (.var 2) .nil)) (.cons (.bi .int (.cons (.bin .sub (.neg (.int 1)) (.var 2)) .nil)) .nil)))) ir__law_pool_3
noncomputable def ir__law_pool_1a : ISs := .cons (.assign 2 (.idx (.var 0) (.var 1))) .nil
noncomputable def ir__law_pool_1 : ISs := .cons (.ifs (.cmp .lt (.var 1) (.bi .len (.cons (.var 0) .nil))) ir__law_pool_1a .nil) ir__law_pool_2
noncomputable def ir__law_pool : ISs := .cons (.assign 2 (.int 0)) ir__law_pool_1
noncomputable def vs__law_pool : List Str := [⟨⟨[115, 99, 114, 105, 112, 116]⟩⟩, ⟨⟨[107]⟩⟩, ⟨⟨[99, 101, 108, 108]⟩⟩, ⟨⟨[98, 105, 103]⟩⟩, ⟨⟨[109, 105, 120, 101, 100]⟩⟩]
noncomputable def ir__law_take_2 : ISs := .cons (.ret (.bin .mod (.bi .int (.cons (.bin .fdiv (.bin .mod (.bi .int (.cons (.bin .mul (.idx (.var 0) (.int 1)) (.idx (.var 0) (.int 1))) .nil)) (.int 2147483629)) (.int 32)) .nil)) (.var 1))) .nil
noncomputable def ir__law_take_1 : ISs := .cons (.setItem (.var 0) (.int 1) (.bin .mod (.bi .int (.cons (.bin .add (.bin .mul (.idx (.var 0) (.int 1)) (.int 39373)) (.int 7)) .nil)) (.int 2147483647))) ir__law_take_2
noncomputable def ir__law_take_0a_2 : ISs := .cons (.ret (.var 2)) .nil
noncomputable def ir__law_take_0a_1 : ISs := .cons (.setItem (.var 0) (.int 0) (.bin .fdiv (.idx (.var 0) (.int 0)) (.var 1))) ir__law_take_0a_2
noncomputable def ir__law_take_0a : ISs := .cons (.assign 2 (.bin .mod (.bi .int (.cons (.idx (.var 0) (.int 0)) .nil)) (.var 1))) ir__law_take_0a_1
noncomputable def ir__law_take : ISs := .cons (.ifs (.cmp .gt (.idx (.var 0) (.int 0)) (.int 0)) ir__law_take_0a .nil) ir__law_take_1
noncomputable def vs__law_take : List Str := [⟨⟨[115, 111, 117, 114, 99, 101]⟩⟩, ⟨⟨[116, 111, 112]⟩⟩, ⟨⟨[100, 105, 103, 105, 116]⟩⟩]
noncomputable def ir__law_one : ISs := .cons (.ret (.idx (.var 1) (.call 330 (.cons (.var 0) (.cons (.bi .len (.cons (.var 1) .nil)) .nil))))) .nil
noncomputable def vs__law_one : List Str := [⟨⟨[115, 111, 117, 114, 99, 101]⟩⟩, ⟨⟨[116, 104, 105, 110, 103, 115]⟩⟩]
noncomputable def ir__law_four : ISs := .cons (.ret (.bi .bytes (.cons (.list (.cons (.int 0) (.cons (.int 0) (.cons (.bin .fdiv (.var 0) (.int 256)) (.cons (.bin .mod (.var 0) (.int 256)) .nil))))) .nil))) .nil
noncomputable def vs__law_four : List Str := [⟨⟨[110, 117, 109, 98, 101, 114]⟩⟩]
noncomputable def ir__law_page_3 : ISs := .cons (.ret (.bin .add (.bin .add (.var 9) (.bi .bytes (.cons (.bin .sub (.var 6) (.bi .len (.cons (.var 9) .nil))) .nil))) (.var 5))) .nil
noncomputable def ir__law_page_2 : ISs := .cons (.assign 9 (.bin .add (.bin .add (.bi .bytes (.cons (.list (.cons (.var 1) (.cons (.int 0) (.cons (.int 0) (.cons (.int 0) (.cons (.bi .len (.cons (.var 2) .nil)) (.cons (.bin .fdiv (.var 6) (.int 256)) (.cons (.bin .mod (.var 6) (.int 256)) (.cons (.int 0) .nil))))))))) .nil)) (.ite (.cmp .lt (.var 1) (.int 10)) (.call 344 (.cons (.var 3) .nil)) (.byt []))) (.var 4))) ir__law_page_3
noncomputable def ir__law_page_1b_2 : ISs := .cons (.assign 4 (.bin .add (.var 4) (.bi .bytes (.cons (.list (.cons (.bin .fdiv (.var 6) (.int 256)) (.cons (.bin .mod (.var 6) (.int 256)) .nil))) .nil)))) .nil
noncomputable def ir__law_page_1b_1 : ISs := .cons (.assignT [6, 5] (.tup (.cons (.bin .sub (.var 6) (.bi .len (.cons (.var 8) .nil))) (.cons (.bin .add (.var 8) (.var 5)) .nil)))) ir__law_page_1b_2
noncomputable def ir__law_page_1b : ISs := .cons (.assign 8 (.bin .add (.var 7) (.bi .bytes (.cons (.bi .max (.cons (.int 0) (.cons (.bin .sub (.int 4) (.bi .len (.cons (.var 7) .nil))) .nil))) .nil)))) ir__law_page_1b_1
noncomputable def ir__law_page_1 : ISs := .cons (.forL 7 (.var 2) ir__law_page_1b) ir__law_page_2
noncomputable def ir__law_page : ISs := .cons (.assignT [4, 5, 6] (.tup (.cons (.byt []) (.cons (.byt []) (.cons (.var 0) .nil))))) ir__law_page_1
noncomputable def vs__law_page : List Str := [⟨⟨[115, 105, 122, 101]⟩⟩, ⟨⟨[107, 105, 110, 100]⟩⟩, ⟨⟨[114, 97, 119, 115]⟩⟩, ⟨⟨[114, 105, 103, 104, 116]⟩⟩, ⟨⟨[116, 111, 108, 100]⟩⟩, ⟨⟨[99, 101, 108, 108, 115]⟩⟩, ⟨⟨[97, 116]⟩⟩, ⟨⟨[114, 97, 119]⟩⟩, ⟨⟨[112, 97, 100, 100, 101, 100]⟩⟩, ⟨⟨[104, 101, 97, 100]⟩⟩]
noncomputable def ir__law_used : ISs := .cons (.ret (.bi .sum (.cons (.compL [] (.bin .add (.int 2) (.bi .max (.cons (.int 4) (.cons (.bi .len (.cons (.var 0) .nil)) .nil)))) (.var 0)) .nil))) .nil
noncomputable def vs__law_used : List Str := [⟨⟨[114, 97, 119, 115]⟩⟩]
noncomputable def ir__law_filled_1a_5a_2a_3 : ISs := .cons (.ret (.tup (.cons (.var 3) (.cons (.var 4) .nil)))) .nil
noncomputable def ir__law_filled_1a_5a_2a_2 : ISs := .cons (.setItem (.var 3) (.neg (.int 2)) (.slcH (.idx (.var 3) (.neg (.int 2))) (.neg (.int 1)))) ir__law_filled_1a_5a_2a_3
noncomputable def ir__law_filled_1a_5a_2a_1 : ISs := .cons (.setItem (.var 4) (.neg (.int 1)) (.idx (.idx (.var 3) (.neg (.int 2))) (.neg (.int 1)))) ir__law_filled_1a_5a_2a_2
noncomputable def ir__law_filled_1a_5a_2a : ISs := .cons (.expr (.meth .append (.var 3) (.cons (.list (.cons (.idx (.var 4) (.neg (.int 1))) .nil)) .nil))) ir__law_filled_1a_5a_2a_1
noncomputable def ir__law_filled_1a_5a_2 : ISs := .cons (.ifs (.cmp .eq (.var 5) (.list .nil)) ir__law_filled_1a_5a_2a .nil) .nil
noncomputable def ir__law_filled_1a_5a_1 : ISs := .cons (.assign 5 (.slcL (.var 5) (.int 1))) ir__law_filled_1a_5a_2
noncomputable def ir__law_filled_1a_5a : ISs := .cons (.expr (.meth .append (.var 4) (.cons (.idx (.var 5) (.int 0)) .nil))) ir__law_filled_1a_5a_1
noncomputable def ir__law_filled_1a_5 : ISs := .cons (.ifs (.var 2) ir__law_filled_1a_5a .nil) .nil
noncomputable def ir__law_filled_1a_4a : ISs := .cons (.ret (.tup (.cons (.var 3) (.cons (.var 4) .nil)))) .nil
noncomputable def ir__law_filled_1a_4 : ISs := .cons (.ifs (.cmp .eq (.var 5) (.list .nil)) ir__law_filled_1a_4a .nil) ir__law_filled_1a_5
noncomputable def ir__law_filled_1a_3 : ISs := .cons (.assign 5 (.slcL (.var 5) (.var 6))) ir__law_filled_1a_4
noncomputable def ir__law_filled_1a_2 : ISs := .cons (.expr (.meth .append (.var 3) (.cons (.slcH (.var 5) (.var 6)) .nil))) ir__law_filled_1a_3
noncomputable def ir__law_filled_1a_1a : ISs := .cons (.assign 6 (.bin .sub (.var 6) (.int 1))) .nil
noncomputable def ir__law_filled_1a_1 : ISs := .cons (.whil (.ands (.cons (.cmp .gt (.var 6) (.int 1)) (.cons (.cmp .gt (.call 356 (.cons (.slcH (.var 5) (.var 6)) .nil)) (.var 1)) .nil))) ir__law_filled_1a_1a) ir__law_filled_1a_2
noncomputable def ir__law_filled_1a : ISs := .cons (.assign 6 (.bi .len (.cons (.var 5) .nil))) ir__law_filled_1a_1
noncomputable def ir__law_filled_1 : ISs := .cons (.whil (.bool true) ir__law_filled_1a) .nil
noncomputable def ir__law_filled : ISs := .cons (.assignT [3, 4, 5] (.tup (.cons (.list .nil) (.cons (.list .nil) (.cons (.bi .list (.cons (.var 0) .nil)) .nil))))) ir__law_filled_1
noncomputable def vs__law_filled : List Str := [⟨⟨[114, 97, 119, 115]⟩⟩, ⟨⟨[114, 111, 111, 109]⟩⟩, ⟨⟨[104, 97, 115, 95, 109, 105, 100, 100, 108, 101, 115]⟩⟩, ⟨⟨[112, 97, 103, 101, 115]⟩⟩, ⟨⟨[109, 105, 100, 100, 108, 101, 115]⟩⟩, ⟨⟨[108, 101, 102, 116]⟩⟩, ⟨⟨[109, 97, 110, 121]⟩⟩]
noncomputable def ir__law_room : ISs := .cons (.ret (.bin .sub (.var 1) (.ite (.cmp .gt (.var 0) (.int 5)) (.int 8) (.int 12)))) .nil
noncomputable def vs__law_room : List Str := [⟨⟨[107, 105, 110, 100]⟩⟩, ⟨⟨[115, 105, 122, 101]⟩⟩]
noncomputable def ir__law_raws_2 : ISs := .cons (.ret (.var 4)) .nil
noncomputable def ir__law_raws_1b_1a : ISs := .cons (.expr (.meth .append (.var 4) (.cons (.bin .add (.bi .bytes (.cons (.list (.cons (.bin .add (.bi .len (.cons (.var 6) .nil)) (.int 1)) (.cons (.bin .add (.int 10) (.var 5)) (.cons (.int 200) .nil)))) .nil)) (.var 6)) .nil))) .nil
noncomputable def ir__law_raws_1b_1b_0a : ISs := .cons (.expr (.meth .append (.var 4) (.cons (.bin .add (.bi .bytes (.cons (.list (.cons (.bin .add (.bi .len (.cons (.var 6) .nil)) (.int 1)) (.cons (.bin .add (.int 10) (.var 5)) .nil))) .nil)) (.var 6)) .nil))) .nil
noncomputable def ir__law_raws_1b_1b_0b : ISs := .cons (.expr (.meth .append (.var 4) (.cons (.bin .add (.bin .add (.call 344 (.cons (.bin .add (.int 100) (.var 5)) .nil)) (.bi .bytes (.cons (.list (.cons (.bin .add (.int 10) (.var 5)) .nil)) .nil))) (.var 6)) .nil))) .nil
noncomputable def ir__law_raws_1b_1b : ISs := .cons (.ifs (.cmp .eq (.var 1) (.int 10)) ir__law_raws_1b_1b_0a ir__law_raws_1b_1b_0b) .nil
noncomputable def ir__law_raws_1b_1 : ISs := .cons (.ifs (.cmp .eq (.var 1) (.int 13)) ir__law_raws_1b_1a ir__law_raws_1b_1b) .nil
noncomputable def ir__law_raws_1b : ISs := .cons (.assign 6 (.bin .mul (.bi .bytes (.cons (.list (.cons (.call 330 (.cons (.var 0) (.cons (.int 256) .nil))) .nil)) .nil)) (.call 337 (.cons (.var 0) (.cons (.list (.cons (.int 0) (.cons (.int 1) (.cons (.bin .sub (.var 3) (.int 6)) (.cons (.call 330 (.cons (.var 0) (.cons (.bin .sub (.var 3) (.int 5)) .nil))) .nil))))) .nil))))) ir__law_raws_1b_1
noncomputable def ir__law_raws_1 : ISs := .cons (.forR 5 (.call 330 (.cons (.var 0) (.cons (.int 11) .nil))) ir__law_raws_1b) ir__law_raws_2
noncomputable def ir__law_raws : ISs := .cons (.assignT [3, 4] (.tup (.cons (.bin .sub (.bin .fdiv (.call 370 (.cons (.var 1) (.cons (.var 2) .nil))) (.int 2)) (.int 2)) (.cons (.list .nil) .nil)))) ir__law_raws_1
noncomputable def vs__law_raws : List Str := [⟨⟨[115, 111, 117, 114, 99, 101]⟩⟩, ⟨⟨[107, 105, 110, 100]⟩⟩, ⟨⟨[115, 105, 122, 101]⟩⟩, ⟨⟨[104, 97, 108, 102]⟩⟩, ⟨⟨[102, 111, 117, 110, 100]⟩⟩, ⟨⟨[116, 117, 114, 110]⟩⟩, ⟨⟨[114, 101, 115, 116]⟩⟩]
noncomputable def ir__law_due_3 : ISs := .cons (.ret (.tup (.cons (.var 7) (.cons (.var 8) (.cons (.bin .sub (.bin .add (.var 4) (.bi .len (.cons (.var 5) .nil))) (.int 1)) .nil))))) .nil
noncomputable def ir__law_due_2b_2a_0a : ISs := .cons (.expr (.meth .append (.var 8) (.cons (.bin .add (.call 344 (.cons (.bin .add (.var 4) (.var 9)) .nil)) (.slcB (.idx (.idx (.var 5) (.var 9)) (.neg (.int 1))) (.int 1) (.int 2))) .nil))) .nil
noncomputable def ir__law_due_2b_2a_0b : ISs := .cons (.expr (.meth .append (.var 8) (.cons (.bin .add (.call 344 (.cons (.bin .add (.var 4) (.var 9)) .nil)) (.ite (.cmp .eq (.var 0) (.int 10)) (.idx (.var 6) (.var 9)) (.slcL (.idx (.var 6) (.var 9)) (.int 4)))) .nil))) .nil
noncomputable def ir__law_due_2b_2a : ISs := .cons (.ifs (.cmp .eq (.var 0) (.int 13)) ir__law_due_2b_2a_0a ir__law_due_2b_2a_0b) .nil
noncomputable def ir__law_due_2b_2 : ISs := .cons (.ifs (.cmp .lt (.bin .add (.var 9) (.int 1)) (.bi .len (.cons (.var 5) .nil))) ir__law_due_2b_2a .nil) .nil
noncomputable def ir__law_due_2b_1 : ISs := .cons (.expr (.meth .append (.var 7) (.cons (.call 351 (.cons (.var 1) (.cons (.var 0) (.cons (.idx (.var 5) (.var 9)) (.cons (.var 10) .nil))))) .nil))) ir__law_due_2b_2
noncomputable def ir__law_due_2b : ISs := .cons (.assign 10 (.ite (.ands (.cons (.cmp .lt (.var 9) (.bi .len (.cons (.var 6) .nil))) (.cons (.cmp .lt (.var 0) (.int 10)) .nil))) (.bin .add (.bin .mul (.idx (.idx (.var 6) (.var 9)) (.int 2)) (.int 256)) (.idx (.idx (.var 6) (.var 9)) (.int 3))) (.var 3))) ir__law_due_2b_1
noncomputable def ir__law_due_2 : ISs := .cons (.forR 9 (.bi .len (.cons (.var 5) .nil)) ir__law_due_2b) ir__law_due_3
noncomputable def ir__law_due_1 : ISs := .cons (.assignT [7, 8] (.tup (.cons (.list .nil) (.cons (.list .nil) .nil)))) ir__law_due_2
noncomputable def ir__law_due : ISs := .cons (.assignT [5, 6] (.call 363 (.cons (.var 2) (.cons (.call 370 (.cons (.var 0) (.cons (.var 1) .nil))) (.cons (.cmp .ne (.var 0) (.int 13)) .nil))))) ir__law_due_1
noncomputable def vs__law_due : List Str := [⟨⟨[107, 105, 110, 100]⟩⟩, ⟨⟨[115, 105, 122, 101]⟩⟩, ⟨⟨[114, 97, 119, 115]⟩⟩, ⟨⟨[114, 105, 103, 104, 116]⟩⟩, ⟨⟨[102, 105, 114, 115, 116]⟩⟩, ⟨⟨[112, 97, 103, 101, 115]⟩⟩, ⟨⟨[109, 105, 100, 100, 108, 101, 115]⟩⟩, ⟨⟨[108, 97, 105, 100]⟩⟩, ⟨⟨[97, 98, 111, 118, 101]⟩⟩, ⟨⟨[97, 116]⟩⟩, ⟨⟨[98, 101, 104, 105, 110, 100]⟩⟩]
noncomputable def ir__law_stored_right_5 : ISs := .cons (.ret (.ands (.cons (.cmp .eq (.var 11) (.tup (.cons (.var 9) (.cons (.var 10) .nil)))) (.cons (.cmp .eq (.attr (.var 3) .pages) (.bin .add (.bin .mul (.list (.cons (.bi .bytes (.cons (.var 2) .nil)) .nil)) (.var 7)) (.var 8))) .nil)))) .nil
noncomputable def ir__law_stored_right_4 : ISs := .cons (.assign 11 (.ite (.cmp .gt (.var 1) (.int 5)) (.call 248 (.cons (.var 3) (.cons (.var 1) (.cons (.var 4) .nil)))) (.call 253 (.cons (.var 3) (.cons (.var 1) (.cons (.var 4) (.cons (.var 5) .nil))))))) ir__law_stored_right_5
noncomputable def ir__law_stored_right_3 : ISs := .cons (.assignT [8, 9, 10] (.call 384 (.cons (.var 1) (.cons (.var 2) (.cons (.var 4) (.cons (.var 5) (.cons (.bin .add (.var 7) (.int 1)) .nil))))))) ir__law_stored_right_4
noncomputable def ir__law_stored_right_2 : ISs := .cons (.assign 7 (.um 1 (.var 3) .nil)) ir__law_stored_right_3
noncomputable def ir__law_stored_right_1b : ISs := .cons (.expr (.um 4 (.var 3) .nil)) .nil
noncomputable def ir__law_stored_right_1 : ISs := .cons (.forR 6 (.bin .add (.int 1) (.call 330 (.cons (.var 0) (.cons (.int 3) .nil)))) ir__law_stored_right_1b) ir__law_stored_right_2
noncomputable def ir__law_stored_right : ISs := .cons (.assignT [3, 4, 5] (.tup (.cons (.new 312 (.cons (.var 2) .nil)) (.cons (.call 377 (.cons (.var 0) (.cons (.var 1) (.cons (.var 2) .nil)))) (.cons (.bin .add (.int 1) (.call 330 (.cons (.var 0) (.cons (.int 900) .nil)))) .nil))))) ir__law_stored_right_1
noncomputable def vs__law_stored_right : List Str := [⟨⟨[115, 111, 117, 114, 99, 101]⟩⟩, ⟨⟨[107, 105, 110, 100]⟩⟩, ⟨⟨[115, 105, 122, 101]⟩⟩, ⟨⟨[115, 116, 111, 114, 101]⟩⟩, ⟨⟨[114, 97, 119, 115]⟩⟩, ⟨⟨[114, 105, 103, 104, 116]⟩⟩, ⟨⟨[116, 117, 114, 110]⟩⟩, ⟨⟨[109, 97, 110, 121]⟩⟩, ⟨⟨[108, 97, 105, 100]⟩⟩, ⟨⟨[97, 98, 111, 118, 101]⟩⟩, ⟨⟨[108, 97, 115, 116]⟩⟩, ⟨⟨[116, 111, 108, 100]⟩⟩]
noncomputable def ir__law_chain_right_6 : ISs := .cons (.ret (.ands (.cons (.cmp .eq (.call 224 (.cons (.var 2) (.cons (.var 7) .nil))) (.var 9)) (.cons (.cmp .eq (.attr (.var 2) .pages) (.var 8)) .nil)))) .nil
noncomputable def ir__law_chain_right_5a_1 : ISs := .cons (.expr (.meth .append (.var 8) (.cons (.bin .add (.bin .add (.call 344 (.cons (.ite (.cmp .ne (.var 10) (.byt [])) (.bin .add (.bi .len (.cons (.var 8) .nil)) (.int 2)) (.int 0)) .nil)) (.var 11)) (.bi .bytes (.cons (.bin .sub (.var 3) (.bi .len (.cons (.var 11) .nil))) .nil))) .nil))) .nil
noncomputable def ir__law_chain_right_5a : ISs := .cons (.assignT [11, 10] (.tup (.cons (.slcH (.var 10) (.var 3)) (.cons (.slcL (.var 10) (.var 3)) .nil)))) ir__law_chain_right_5a_1
noncomputable def ir__law_chain_right_5 : ISs := .cons (.whil (.cmp .ne (.var 10) (.byt [])) ir__law_chain_right_5a) ir__law_chain_right_6
noncomputable def ir__law_chain_right_4 : ISs := .cons (.assignT [9, 10] (.tup (.cons (.bin .add (.bi .len (.cons (.var 8) .nil)) (.int 1)) (.cons (.var 7) .nil)))) ir__law_chain_right_5
noncomputable def ir__law_chain_right_3 : ISs := .cons (.assignT [7, 8] (.tup (.cons (.bi .bytes (.cons (.compR [6] (.bin .mod (.bin .add (.var 1) (.bin .mul (.int 3) (.var 0))) (.int 256)) (.var 5)) .nil)) (.cons (.bin .mul (.list (.cons (.bi .bytes (.cons (.var 1) .nil)) .nil)) (.um 1 (.var 2) .nil)) .nil)))) ir__law_chain_right_4
noncomputable def ir__law_chain_right_2 : ISs := .cons (.assignT [5, 6] (.tup (.cons (.call 337 (.cons (.var 0) (.cons (.list (.cons (.var 3) (.cons (.bin .mul (.int 2) (.var 3)) (.cons (.bin .add (.int 1) (.call 330 (.cons (.var 0) (.cons (.bin .mul (.int 3) (.var 3)) .nil)))) .nil)))) .nil))) (.cons (.call 330 (.cons (.var 0) (.cons (.int 256) .nil))) .nil)))) ir__law_chain_right_3
noncomputable def ir__law_chain_right_1b : ISs := .cons (.expr (.um 4 (.var 2) .nil)) .nil
noncomputable def ir__law_chain_right_1 : ISs := .cons (.forR 4 (.bin .add (.int 1) (.call 330 (.cons (.var 0) (.cons (.int 3) .nil)))) ir__law_chain_right_1b) ir__law_chain_right_2
noncomputable def ir__law_chain_right : ISs := .cons (.assignT [2, 3] (.tup (.cons (.new 312 (.cons (.var 1) .nil)) (.cons (.bin .sub (.var 1) (.int 4)) .nil)))) ir__law_chain_right_1
noncomputable def vs__law_chain_right : List Str := [⟨⟨[115, 111, 117, 114, 99, 101]⟩⟩, ⟨⟨[115, 105, 122, 101]⟩⟩, ⟨⟨[115, 116, 111, 114, 101]⟩⟩, ⟨⟨[114, 111, 111, 109]⟩⟩, ⟨⟨[116, 117, 114, 110]⟩⟩, ⟨⟨[109, 97, 110, 121]⟩⟩, ⟨⟨[102, 105, 114, 115, 116]⟩⟩, ⟨⟨[111, 99, 116, 101, 116, 115]⟩⟩, ⟨⟨[100, 117, 101]⟩⟩, ⟨⟨[98, 101, 103, 105, 110]⟩⟩, ⟨⟨[108, 101, 102, 116]⟩⟩, ⟨⟨[112, 97, 114, 116]⟩⟩]
noncomputable def ir__law_told_right_3 : ISs := .cons (.ret (.ands (.cons (.cmp .eq (.call 253 (.cons (.var 0) (.cons (.int 2) (.cons (.var 1) (.cons (.int 5) .nil))))) (.tup (.cons (.var 3) (.cons (.var 4) .nil)))) (.cons (.cmp .eq (.attr (.var 0) .pages) (.bin .add (.list (.cons (.bi .bytes (.cons (.int 64) .nil)) .nil)) (.var 2))) (.cons (.cmp .eq (.bi .len (.cons (.var 2) .nil)) (.int 2)) .nil))))) .nil
noncomputable def ir__law_told_right_2 : ISs := .cons (.assignT [2, 3, 4] (.call 384 (.cons (.int 2) (.cons (.int 64) (.cons (.var 1) (.cons (.int 5) (.cons (.int 2) .nil))))))) ir__law_told_right_3
noncomputable def ir__law_told_right_1 : ISs := .cons (.expr (.um 4 (.var 0) .nil)) ir__law_told_right_2
noncomputable def ir__law_told_right : ISs := .cons (.assignT [0, 1] (.tup (.cons (.new 312 (.cons (.int 64) .nil)) (.cons (.compR [] (.bin .add (.call 344 (.cons (.bin .add (.int 7) (.var 0)) .nil)) (.bin .mul (.bi .bytes (.cons (.list (.cons (.bin .add (.int 1) (.var 0)) .nil)) .nil)) (.int 18))) (.int 3)) .nil)))) ir__law_told_right_1
noncomputable def vs__law_told_right : List Str := [⟨⟨[115, 116, 111, 114, 101]⟩⟩, ⟨⟨[114, 97, 119, 115]⟩⟩, ⟨⟨[108, 97, 105, 100]⟩⟩, ⟨⟨[97, 98, 111, 118, 101]⟩⟩, ⟨⟨[108, 97, 115, 116]⟩⟩]
noncomputable def ir_law_4 : ISs := .cons (.ret (.ands (.cons (.call 391 (.cons (.var 1) (.cons (.call 337 (.cons (.var 1) (.cons (.list (.cons (.int 2) (.cons (.int 5) .nil))) .nil))) (.cons (.var 2) .nil)))) (.cons (.call 396 (.cons (.var 1) (.cons (.var 2) .nil))) .nil)))) .nil
noncomputable def ir_law_3a : ISs := .cons (.ret (.bool false)) .nil
noncomputable def ir_law_3 : ISs := .cons (.ifs (.unot (.call 391 (.cons (.var 1) (.cons (.call 337 (.cons (.var 1) (.cons (.list (.cons (.int 13) (.cons (.int 10) .nil))) .nil))) (.cons (.var 2) .nil))))) ir_law_3a .nil) ir_law_4
noncomputable def ir_law_2 : ISs := .cons (.assign 2 (.call 337 (.cons (.var 1) (.cons (.list (.cons (.int 64) (.cons (.int 128) .nil))) .nil)))) ir_law_3
noncomputable def ir_law_1 : ISs := .cons (.assign 1 (.call 323 (.cons (.var 0) (.cons (.int 0) .nil)))) ir_law_2
noncomputable def ir_law_0a : ISs := .cons (.ret (.bool false)) .nil
noncomputable def ir_law : ISs := .cons (.ifs (.unot (.call 401 .nil)) ir_law_0a .nil) ir_law_1
noncomputable def vs_law : List Str := [⟨⟨[115, 99, 114, 105, 112, 116]⟩⟩, ⟨⟨[115, 111, 117, 114, 99, 101]⟩⟩, ⟨⟨[115, 105, 122, 101]⟩⟩]
noncomputable def locOf (vars : List Str) (as : List AV) : Loc := as.map some ++ List.replicate (vars.length - as.length) none
noncomputable def tab : List (Addr × List Str × Nat × ISs) := [
  (72, vs_two_at, 2, ir_two_at),
  (79, vs_four_at, 2, ir_four_at),
  (86, vs_put_two, 3, ir_put_two),
  (93, vs_put_four, 3, ir_put_four),
  (100, vs_four_octets, 1, ir_four_octets),
  (107, vs_is_leaf, 1, ir_is_leaf),
  (114, vs_head_size, 1, ir_head_size),
  (121, vs_put_varint, 1, ir_put_varint),
  (128, vs_get_varint, 2, ir_get_varint),
  (135, vs_cost, 1, ir_cost),
  (140, vs_total, 1, ir_total),
  (147, vs_base_of, 1, ir_base_of),
  (154, vs_capacity, 3, ir_capacity),
  (161, vs_child_of, 1, ir_child_of),
  (168, vs_with_child, 2, ir_with_child),
  (175, vs_leaf_rowid, 1, ir_leaf_rowid),
  (189, vs_Content___init__, 4, ir_Content___init__),
  (210, vs_fits, 3, ir_fits),
  (217, vs_write_content, 3, ir_write_content),
  (224, vs_append_chain, 2, ir_append_chain),
  (231, vs_packed_rows, 2, ir_packed_rows),
  (238, vs_packed_between, 2, ir_packed_between),
  (243, vs_new_pages, 2, ir_new_pages),
  (248, vs_store_leaves, 3, ir_store_leaves),
  (253, vs_store_inner, 4, ir_store_inner),
  (267, vs_PageStore___init__, 2, ir_PageStore___init__),
  (274, vs_PageStore_page_count, 1, ir_PageStore_page_count),
  (281, vs_PageStore_read_page, 2, ir_PageStore_read_page),
  (288, vs_PageStore_write_page, 3, ir_PageStore_write_page),
  (295, vs_PageStore_extend, 1, ir_PageStore_extend),
  (323, vs__law_pool, 2, ir__law_pool),
  (330, vs__law_take, 2, ir__law_take),
  (337, vs__law_one, 2, ir__law_one),
  (344, vs__law_four, 1, ir__law_four),
  (351, vs__law_page, 4, ir__law_page),
  (356, vs__law_used, 1, ir__law_used),
  (363, vs__law_filled, 3, ir__law_filled),
  (370, vs__law_room, 2, ir__law_room),
  (377, vs__law_raws, 3, ir__law_raws),
  (384, vs__law_due, 5, ir__law_due),
  (391, vs__law_stored_right, 3, ir__law_stored_right),
  (396, vs__law_chain_right, 2, ir__law_chain_right),
  (401, vs__law_told_right, 0, ir__law_told_right),
  (408, vs_law, 1, ir_law)]
/-- what a call comes to, with n calls still to spend -/
noncomputable def Gam : Nat → Orc
  | 0 => fun _ _ _ _ => False
  | n + 1 => fun f vs H Q => ∃ p ∈ tab, p.1 = f ∧ vs.length = p.2.2.1 ∧ WSs (Gam n) p.2.2.2 (locOf p.2.1 vs) H fun fl _ H' => match fl with | .next => Q .none H' | .ret v => Q v H'
end Mine
end
section
open PySem PySem.W PySem.Calls PyProof.Rows
namespace Mine
abbrev NM := List (Str × NameKind)
noncomputable def notStar (x : Expr) : Bool := x.ctorIdx != 22
noncomputable def notSlice (x : Expr) : Bool := x.ctorIdx != 26
noncomputable def notComp (x : Expr) : Bool := x.ctorIdx != 8 && (x.ctorIdx != 9 && x.ctorIdx != 10)
noncomputable def notSet (x : Expr) : Bool := x.ctorIdx != 7
noncomputable def bopOf : BOp → Operator
  | .add => .Add | .sub => .Sub | .mul => .Mult | .fdiv => .FloorDiv | .mod => .Mod | .band => .BitAnd | .bor => .BitOr | .shl => .LShift | .shr => .RShift | .pow => .Pow
noncomputable def bopOk (op : BOp) (o : Operator) : Bool := decide (o = bopOf op)
theorem bopOk_eq {op : BOp} {o : Operator} (h : bopOk op o = true) : o = bopOf op := of_decide_eq_true h
noncomputable def copOf : COp → CmpOp
  | .eq => .Eq | .ne => .NotEq | .lt => .Lt | .le => .LtE | .gt => .Gt | .ge => .GtE
noncomputable def copOk (op : COp) (o : CmpOp) : Bool := decide (o = copOf op)
theorem copOk_eq {op : COp} {o : CmpOp} (h : copOk op o = true) : o = copOf op := of_decide_eq_true h
/-- the top's ints and defs -/
noncomputable def gints : List (Str × Int) := [(s32, 13), (s31, 10), (s33, 4), (s48, 2), (s30, 32), (s45, 18446744073709551616)]
noncomputable def gfuns : List (Str × Addr) := [(s34, 72), (s35, 79), (s36, 86), (s37, 93), (s42, 100), (s43, 107), (s44, 114), (s46, 121), (s47, 128), (s49, 135), (s50, 140), (s51, 147), (s52, 154), (s53, 161), (s54, 168), (s66, 175), (s68, 210), (s69, 217), (s87, 224), (s88, 231), (s89, 238), (s90, 243), (s91, 248), (s92, 253), (s118, 323), (s119, 330), (s120, 337), (s121, 344), (s122, 351), (s123, 356), (s124, 363), (s125, 370), (s126, 377), (s127, 384), (s128, 391), (s146, 396), (s147, 401), (s148, 408)]
noncomputable def gclss : List (Str × Addr) := [(s67, 199), (s101, 312)]
noncomputable def biOf : BI → String
  | .len => "len" | .max => "max" | .int => "int" | .sum => "sum" | .bytes => "bytes" | .barr => "bytearray" | .list => "list"
noncomputable def biStr : BI → Str
  | .len => ⟨⟨[108, 101, 110]⟩⟩ | .max => ⟨⟨[109, 97, 120]⟩⟩ | .int => ⟨⟨[105, 110, 116]⟩⟩ | .sum => ⟨⟨[115, 117, 109]⟩⟩
  | .bytes => ⟨⟨[98, 121, 116, 101, 115]⟩⟩ | .barr => ⟨⟨[98, 121, 116, 101, 97, 114, 114, 97, 121]⟩⟩ | .list => ⟨⟨[108, 105, 115, 116]⟩⟩
noncomputable def rangeStr : Str := ⟨⟨[114, 97, 110, 103, 101]⟩⟩
noncomputable def biVal : BI → Value
  | .len => .builtin "len" | .max => .builtin "max" | .int => .type "int" | .sum => .builtin "sum" | .bytes => .type "bytes" | .barr => .type "bytearray" | .list => .type "list"
noncomputable def miStr : MI → Str
  | .append => ⟨⟨[97, 112, 112, 101, 110, 100]⟩⟩ | .pop => ⟨⟨[112, 111, 112]⟩⟩ | .reverse => ⟨⟨[114, 101, 118, 101, 114, 115, 101]⟩⟩ | .join => ⟨⟨[106, 111, 105, 110]⟩⟩
noncomputable def toBytesStr : Str := ⟨⟨[116, 111, 95, 98, 121, 116, 101, 115]⟩⟩
noncomputable def bigStr : Str := ⟨⟨[98, 105, 103]⟩⟩
noncomputable def debugStr : Str := ⟨⟨[95, 95, 100, 101, 98, 117, 103, 95, 95]⟩⟩
noncomputable def umStr : Nat → Option Str
  | 1 => some s102 | 2 => some s103 | 3 => some s104 | 4 => some s105 | _ => none
noncomputable def isGlob (nm : NM) (x : Str) : Bool := nm.lookup x == some .globalImplicit && x != debugStr
noncomputable def ownKinds (nm : NM) (sc : NM) : NM := sc.map fun (n, k) => if k == .free && nm.lookup n == some .cell then (n, .cell) else (n, k)
noncomputable def capNames (vs : List Str) (caps : List Nat) : List Str := caps.map fun i => (vs[i]?).getD debugStr
/-- a comprehension's scope, seen from the names nm, vs -/
noncomputable def compOk (nm : NM) (vs : List Str) (caps : List Nat) (x : Str) (sc : Scope) : Bool :=
  sc.kind == .function && caps.all (fun i => (vs[i]?).isSome) && decide (x :: capNames vs caps).Nodup && sc.names.lookup x == some .local &&
  (capNames vs caps).all (fun n => sc.names.lookup n == some .free && nm.lookup n == some .cell) &&
  sc.names.all (fun p => p.2 == .local || p.2 == .globalImplicit || (p.2 == .free && nm.lookup p.1 == some .cell)) && decide (sc.names.map (·.1)).Nodup
noncomputable def isBin (x : Expr) (k : Expr → Operator → Expr → Pos → Bool) : Bool := if h : x.ctorIdx = 2 then Expr.BinOp.elim (motive_1 := fun _ => Bool) x h k else false
theorem isBin_inv {x : Expr} {k : Expr → Operator → Expr → Pos → Bool} (h : isBin x k = true) : ∃ a o b p, x = .BinOp a o b p ∧ k a o b p = true := by
  by_cases e : x.ctorIdx = 2
  · exact Expr.BinOp.elim (motive_1 := fun x => isBin x k = true → ∃ a o b p, x = .BinOp a o b p ∧ k a o b p = true) x e (fun a o b p h => ⟨a, o, b, p, rfl, h⟩) h
  · rw [isBin, dif_neg e] at h; exact absurd h Bool.false_ne_true
noncomputable def isUna (x : Expr) (k : UnaryOp → Expr → Pos → Bool) : Bool := if h : x.ctorIdx = 3 then Expr.UnaryOp.elim (motive_1 := fun _ => Bool) x h k else false
theorem isUna_inv {x : Expr} {k : UnaryOp → Expr → Pos → Bool} (h : isUna x k = true) : ∃ o a p, x = .UnaryOp o a p ∧ k o a p = true := by
  by_cases e : x.ctorIdx = 3
  · exact Expr.UnaryOp.elim (motive_1 := fun x => isUna x k = true → ∃ o a p, x = .UnaryOp o a p ∧ k o a p = true) x e (fun o a p h => ⟨o, a, p, rfl, h⟩) h
  · rw [isUna, dif_neg e] at h; exact absurd h Bool.false_ne_true
noncomputable def isBoo (x : Expr) (k : BoolOp → List Expr → Pos → Bool) : Bool := if h : x.ctorIdx = 0 then Expr.BoolOp.elim (motive_1 := fun _ => Bool) x h k else false
theorem isBoo_inv {x : Expr} {k : BoolOp → List Expr → Pos → Bool} (h : isBoo x k = true) : ∃ o l p, x = .BoolOp o l p ∧ k o l p = true := by
  by_cases e : x.ctorIdx = 0
  · exact Expr.BoolOp.elim (motive_1 := fun x => isBoo x k = true → ∃ o l p, x = .BoolOp o l p ∧ k o l p = true) x e (fun o l p h => ⟨o, l, p, rfl, h⟩) h
  · rw [isBoo, dif_neg e] at h; exact absurd h Bool.false_ne_true
noncomputable def isCmp (x : Expr) (k : Expr → List CmpOp → List Expr → Pos → Bool) : Bool := if h : x.ctorIdx = 15 then Expr.Compare.elim (motive_1 := fun _ => Bool) x h k else false
theorem isCmp_inv {x : Expr} {k : Expr → List CmpOp → List Expr → Pos → Bool} (h : isCmp x k = true) : ∃ a os rs p, x = .Compare a os rs p ∧ k a os rs p = true := by
  by_cases e : x.ctorIdx = 15
  · exact Expr.Compare.elim (motive_1 := fun x => isCmp x k = true → ∃ a os rs p, x = .Compare a os rs p ∧ k a os rs p = true) x e (fun a os rs p h => ⟨a, os, rs, p, rfl, h⟩) h
  · rw [isCmp, dif_neg e] at h; exact absurd h Bool.false_ne_true
noncomputable def isIte (x : Expr) (k : Expr → Expr → Expr → Pos → Bool) : Bool := if h : x.ctorIdx = 5 then Expr.IfExp.elim (motive_1 := fun _ => Bool) x h k else false
theorem isIte_inv {x : Expr} {k : Expr → Expr → Expr → Pos → Bool} (h : isIte x k = true) : ∃ a b c p, x = .IfExp a b c p ∧ k a b c p = true := by
  by_cases e : x.ctorIdx = 5
  · exact Expr.IfExp.elim (motive_1 := fun x => isIte x k = true → ∃ a b c p, x = .IfExp a b c p ∧ k a b c p = true) x e (fun a b c p h => ⟨a, b, c, p, rfl, h⟩) h
  · rw [isIte, dif_neg e] at h; exact absurd h Bool.false_ne_true
noncomputable def isCall (x : Expr) (k : Expr → List Expr → List Keyword → Pos → Bool) : Bool := if h : x.ctorIdx = 16 then Expr.Call.elim (motive_1 := fun _ => Bool) x h k else false
theorem isCall_inv {x : Expr} {k : Expr → List Expr → List Keyword → Pos → Bool} (h : isCall x k = true) : ∃ f es ks p, x = .Call f es ks p ∧ k f es ks p = true := by
  by_cases e : x.ctorIdx = 16
  · exact Expr.Call.elim (motive_1 := fun x => isCall x k = true → ∃ f es ks p, x = .Call f es ks p ∧ k f es ks p = true) x e (fun f es ks p h => ⟨f, es, ks, p, rfl, h⟩) h
  · rw [isCall, dif_neg e] at h; exact absurd h Bool.false_ne_true
noncomputable def isAtt (x : Expr) (k : Expr → Str → Pos → Bool) : Bool := if h : x.ctorIdx = 20 then Expr.Attribute.elim (motive_1 := fun _ => Bool) x h k else false
theorem isAtt_inv {x : Expr} {k : Expr → Str → Pos → Bool} (h : isAtt x k = true) : ∃ a n p, x = .Attribute a n p ∧ k a n p = true := by
  by_cases e : x.ctorIdx = 20
  · exact Expr.Attribute.elim (motive_1 := fun x => isAtt x k = true → ∃ a n p, x = .Attribute a n p ∧ k a n p = true) x e (fun a n p h => ⟨a, n, p, rfl, h⟩) h
  · rw [isAtt, dif_neg e] at h; exact absurd h Bool.false_ne_true
noncomputable def isSub (x : Expr) (k : Expr → Expr → Pos → Bool) : Bool := if h : x.ctorIdx = 21 then Expr.Subscript.elim (motive_1 := fun _ => Bool) x h k else false
theorem isSub_inv {x : Expr} {k : Expr → Expr → Pos → Bool} (h : isSub x k = true) : ∃ a i p, x = .Subscript a i p ∧ k a i p = true := by
  by_cases e : x.ctorIdx = 21
  · exact Expr.Subscript.elim (motive_1 := fun x => isSub x k = true → ∃ a i p, x = .Subscript a i p ∧ k a i p = true) x e (fun a i p h => ⟨a, i, p, rfl, h⟩) h
  · rw [isSub, dif_neg e] at h; exact absurd h Bool.false_ne_true
noncomputable def isSlc (x : Expr) (k : Option Expr → Option Expr → Option Expr → Pos → Bool) : Bool := if h : x.ctorIdx = 26 then Expr.Slice.elim (motive_1 := fun _ => Bool) x h k else false
theorem isSlc_inv {x : Expr} {k : Option Expr → Option Expr → Option Expr → Pos → Bool} (h : isSlc x k = true) : ∃ a b c p, x = .Slice a b c p ∧ k a b c p = true := by
  by_cases e : x.ctorIdx = 26
  · exact Expr.Slice.elim (motive_1 := fun x => isSlc x k = true → ∃ a b c p, x = .Slice a b c p ∧ k a b c p = true) x e (fun a b c p h => ⟨a, b, c, p, rfl, h⟩) h
  · rw [isSlc, dif_neg e] at h; exact absurd h Bool.false_ne_true
noncomputable def isLst (x : Expr) (k : List Expr → Pos → Bool) : Bool := if h : x.ctorIdx = 24 then Expr.List.elim (motive_1 := fun _ => Bool) x h k else false
theorem isLst_inv {x : Expr} {k : List Expr → Pos → Bool} (h : isLst x k = true) : ∃ l p, x = .List l p ∧ k l p = true := by
  by_cases e : x.ctorIdx = 24
  · exact Expr.List.elim (motive_1 := fun x => isLst x k = true → ∃ l p, x = .List l p ∧ k l p = true) x e (fun l p h => ⟨l, p, rfl, h⟩) h
  · rw [isLst, dif_neg e] at h; exact absurd h Bool.false_ne_true
noncomputable def isTup (x : Expr) (k : List Expr → Nat → Pos → Bool) : Bool := if h : x.ctorIdx = 25 then Expr.Tuple.elim (motive_1 := fun _ => Bool) x h k else false
theorem isTup_inv {x : Expr} {k : List Expr → Nat → Pos → Bool} (h : isTup x k = true) : ∃ l c p, x = .Tuple l c p ∧ k l c p = true := by
  by_cases e : x.ctorIdx = 25
  · exact Expr.Tuple.elim (motive_1 := fun x => isTup x k = true → ∃ l c p, x = .Tuple l c p ∧ k l c p = true) x e (fun l c p h => ⟨l, c, p, rfl, h⟩) h
  · rw [isTup, dif_neg e] at h; exact absurd h Bool.false_ne_true
noncomputable def isCst (x : Expr) (k : Const → Nat → Pos → Bool) : Bool := if h : x.ctorIdx = 19 then Expr.Constant.elim (motive_1 := fun _ => Bool) x h k else false
theorem isCst_inv {x : Expr} {k : Const → Nat → Pos → Bool} (h : isCst x k = true) : ∃ c kk p, x = .Constant c kk p ∧ k c kk p = true := by
  by_cases e : x.ctorIdx = 19
  · exact Expr.Constant.elim (motive_1 := fun x => isCst x k = true → ∃ c kk p, x = .Constant c kk p ∧ k c kk p = true) x e (fun c kk p h => ⟨c, kk, p, rfl, h⟩) h
  · rw [isCst, dif_neg e] at h; exact absurd h Bool.false_ne_true
noncomputable def isNam (x : Expr) (k : Str → Pos → Bool) : Bool := if h : x.ctorIdx = 23 then Expr.Name.elim (motive_1 := fun _ => Bool) x h k else false
theorem isNam_inv {x : Expr} {k : Str → Pos → Bool} (h : isNam x k = true) : ∃ n p, x = .Name n p ∧ k n p = true := by
  by_cases e : x.ctorIdx = 23
  · exact Expr.Name.elim (motive_1 := fun x => isNam x k = true → ∃ n p, x = .Name n p ∧ k n p = true) x e (fun n p h => ⟨n, p, rfl, h⟩) h
  · rw [isNam, dif_neg e] at h; exact absurd h Bool.false_ne_true
noncomputable def isCom (x : Expr) (k : Expr → List Comprehension → Scope → Pos → Bool) : Bool := if h : x.ctorIdx = 8 then Expr.ListComp.elim (motive_1 := fun _ => Bool) x h k else false
theorem isCom_inv {x : Expr} {k : Expr → List Comprehension → Scope → Pos → Bool} (h : isCom x k = true) : ∃ y gs sc p, x = .ListComp y gs sc p ∧ k y gs sc p = true := by
  by_cases e : x.ctorIdx = 8
  · exact Expr.ListComp.elim (motive_1 := fun x => isCom x k = true → ∃ y gs sc p, x = .ListComp y gs sc p ∧ k y gs sc p = true) x e (fun y gs sc p h => ⟨y, gs, sc, p, rfl, h⟩) h
  · rw [isCom, dif_neg e] at h; exact absurd h Bool.false_ne_true
noncomputable def isAsg (x : Stmt) (k : List Expr → Expr → Pos → Bool) : Bool := if h : x.ctorIdx = 5 then Stmt.Assign.elim (motive_2 := fun _ => Bool) x h k else false
theorem isAsg_inv {x : Stmt} {k : List Expr → Expr → Pos → Bool} (h : isAsg x k = true) : ∃ ts y p, x = .Assign ts y p ∧ k ts y p = true := by
  by_cases e : x.ctorIdx = 5
  · exact Stmt.Assign.elim (motive_2 := fun x => isAsg x k = true → ∃ ts y p, x = .Assign ts y p ∧ k ts y p = true) x e (fun ts y p h => ⟨ts, y, p, rfl, h⟩) h
  · rw [isAsg, dif_neg e] at h; exact absurd h Bool.false_ne_true
noncomputable def isAug (x : Stmt) (k : Expr → Operator → Expr → Pos → Bool) : Bool := if h : x.ctorIdx = 7 then Stmt.AugAssign.elim (motive_2 := fun _ => Bool) x h k else false
theorem isAug_inv {x : Stmt} {k : Expr → Operator → Expr → Pos → Bool} (h : isAug x k = true) : ∃ t o y p, x = .AugAssign t o y p ∧ k t o y p = true := by
  by_cases e : x.ctorIdx = 7
  · exact Stmt.AugAssign.elim (motive_2 := fun x => isAug x k = true → ∃ t o y p, x = .AugAssign t o y p ∧ k t o y p = true) x e (fun t o y p h => ⟨t, o, y, p, rfl, h⟩) h
  · rw [isAug, dif_neg e] at h; exact absurd h Bool.false_ne_true
noncomputable def isExp (x : Stmt) (k : Expr → Pos → Bool) : Bool := if h : x.ctorIdx = 24 then Stmt.Expr.elim (motive_2 := fun _ => Bool) x h k else false
theorem isExp_inv {x : Stmt} {k : Expr → Pos → Bool} (h : isExp x k = true) : ∃ y p, x = .Expr y p ∧ k y p = true := by
  by_cases e : x.ctorIdx = 24
  · exact Stmt.Expr.elim (motive_2 := fun x => isExp x k = true → ∃ y p, x = .Expr y p ∧ k y p = true) x e (fun y p h => ⟨y, p, rfl, h⟩) h
  · rw [isExp, dif_neg e] at h; exact absurd h Bool.false_ne_true
noncomputable def isRet (x : Stmt) (k : Option Expr → Pos → Bool) : Bool := if h : x.ctorIdx = 3 then Stmt.Return.elim (motive_2 := fun _ => Bool) x h k else false
theorem isRet_inv {x : Stmt} {k : Option Expr → Pos → Bool} (h : isRet x k = true) : ∃ y p, x = .Return y p ∧ k y p = true := by
  by_cases e : x.ctorIdx = 3
  · exact Stmt.Return.elim (motive_2 := fun x => isRet x k = true → ∃ y p, x = .Return y p ∧ k y p = true) x e (fun y p h => ⟨y, p, rfl, h⟩) h
  · rw [isRet, dif_neg e] at h; exact absurd h Bool.false_ne_true
noncomputable def isIf (x : Stmt) (k : Expr → List Stmt → List Stmt → Pos → Bool) : Bool := if h : x.ctorIdx = 12 then Stmt.If.elim (motive_2 := fun _ => Bool) x h k else false
theorem isIf_inv {x : Stmt} {k : Expr → List Stmt → List Stmt → Pos → Bool} (h : isIf x k = true) : ∃ t a b p, x = .If t a b p ∧ k t a b p = true := by
  by_cases e : x.ctorIdx = 12
  · exact Stmt.If.elim (motive_2 := fun x => isIf x k = true → ∃ t a b p, x = .If t a b p ∧ k t a b p = true) x e (fun t a b p h => ⟨t, a, b, p, rfl, h⟩) h
  · rw [isIf, dif_neg e] at h; exact absurd h Bool.false_ne_true
noncomputable def isWhi (x : Stmt) (k : Expr → List Stmt → List Stmt → Pos → Bool) : Bool := if h : x.ctorIdx = 11 then Stmt.While.elim (motive_2 := fun _ => Bool) x h k else false
theorem isWhi_inv {x : Stmt} {k : Expr → List Stmt → List Stmt → Pos → Bool} (h : isWhi x k = true) : ∃ t a b p, x = .While t a b p ∧ k t a b p = true := by
  by_cases e : x.ctorIdx = 11
  · exact Stmt.While.elim (motive_2 := fun x => isWhi x k = true → ∃ t a b p, x = .While t a b p ∧ k t a b p = true) x e (fun t a b p h => ⟨t, a, b, p, rfl, h⟩) h
  · rw [isWhi, dif_neg e] at h; exact absurd h Bool.false_ne_true
noncomputable def isFor (x : Stmt) (k : Expr → Expr → List Stmt → List Stmt → Pos → Bool) : Bool := if h : x.ctorIdx = 9 then Stmt.For.elim (motive_2 := fun _ => Bool) x h k else false
theorem isFor_inv {x : Stmt} {k : Expr → Expr → List Stmt → List Stmt → Pos → Bool} (h : isFor x k = true) : ∃ t i a b p, x = .For t i a b p ∧ k t i a b p = true := by
  by_cases e : x.ctorIdx = 9
  · exact Stmt.For.elim (motive_2 := fun x => isFor x k = true → ∃ t i a b p, x = .For t i a b p ∧ k t i a b p = true) x e (fun t i a b p h => ⟨t, i, a, b, p, rfl, h⟩) h
  · rw [isFor, dif_neg e] at h; exact absurd h Bool.false_ne_true
noncomputable def one {α : Type} (l : List α) (k : α → Bool) : Bool := match l with | [a] => k a | _ => false
theorem one_inv {α : Type} : ∀ {l : List α} {k : α → Bool}, one l k = true → ∃ a, l = [a] ∧ k a = true
  | [a], _, h => ⟨a, rfl, h⟩
noncomputable def consB {α : Type} (l : List α) (k : α → List α → Bool) : Bool := match l with | [] => false | a :: r => k a r
theorem consB_inv {α : Type} : ∀ {l : List α} {k : α → List α → Bool}, consB l k = true → ∃ a r, l = a :: r ∧ k a r = true
  | a :: r, _, h => ⟨a, r, rfl, h⟩
noncomputable def twoB {α : Type} (l : List α) (k : α → α → Bool) : Bool := consB l fun a r => one r fun b => k a b
theorem twoB_inv {α : Type} {l : List α} {k : α → α → Bool} (h : twoB l k = true) : ∃ a b, l = [a, b] ∧ k a b = true := by
  obtain ⟨a, r, rfl, h⟩ := consB_inv h
  obtain ⟨b, rfl, h⟩ := one_inv h
  exact ⟨a, b, rfl, h⟩
noncomputable def noneB {α : Type} (o : Option α) : Bool := match o with | none => true | some _ => false
theorem noneB_inv {α : Type} : ∀ {o : Option α}, noneB o = true → o = none
  | none, _ => rfl
noncomputable def someB {α : Type} (o : Option α) (k : α → Bool) : Bool := match o with | none => false | some a => k a
theorem someB_inv {α : Type} : ∀ {o : Option α} {k : α → Bool}, someB o k = true → ∃ a, o = some a ∧ k a = true
  | some a, _, h => ⟨a, rfl, h⟩
noncomputable def nilB {α : Type} (l : List α) : Bool := match l with | [] => true | _ :: _ => false
theorem nilB_inv {α : Type} : ∀ {l : List α}, nilB l = true → l = []
  | [], _ => rfl
noncomputable def cstN (c : Const) : Bool := match c with | .none => true | _ => false
noncomputable def cstB (c : Const) (b : Bool) : Bool := match c with | .bool d => b == d | _ => false
noncomputable def cstI (c : Const) (i : Int) : Bool := match c with | .int j => decide (i = j) | _ => false
noncomputable def cstY (c : Const) (b : List UInt8) : Bool := match c with | .bytes d => decide (b = d) | _ => false
noncomputable def cstS (c : Const) (s : Str) : Bool := match c with | .str d => d == s | _ => false
theorem cstN_inv {c : Const} (h : cstN c = true) : c = .none := by cases c <;> first | rfl | cases h
theorem cstB_inv {c : Const} {b : Bool} (h : cstB c b = true) : c = .bool b := by cases c <;> first | cases h; done | (rw [eq_of_beq (a := b) h])
theorem cstI_inv {c : Const} {b : Int} (h : cstI c b = true) : c = .int b := by cases c <;> first | cases h; done | (rw [of_decide_eq_true (p := b = _) h])
theorem cstY_inv {c : Const} {b : List UInt8} (h : cstY c b = true) : c = .bytes b := by cases c <;> first | cases h; done | (rw [of_decide_eq_true (p := b = _) h])
theorem cstS_inv {c : Const} {b : Str} (h : cstS c b = true) : c = .str b := by cases c <;> first | cases h; done | (rw [eq_of_beq (b := b) h])
noncomputable def isUSub (o : UnaryOp) : Bool := match o with | .USub => true | _ => false
theorem isUSub_inv {o : UnaryOp} (h : isUSub o = true) : o = .USub := by cases o <;> first | rfl | cases h
noncomputable def isNot (o : UnaryOp) : Bool := match o with | .Not => true | _ => false
theorem isNot_inv {o : UnaryOp} (h : isNot o = true) : o = .Not := by cases o <;> first | rfl | cases h
noncomputable def isAnd (o : BoolOp) : Bool := match o with | .And => true | _ => false
theorem isAnd_inv {o : BoolOp} (h : isAnd o = true) : o = .And := by cases o <;> first | rfl | cases h
noncomputable def isOr (o : BoolOp) : Bool := match o with | .Or => true | _ => false
theorem isOr_inv {o : BoolOp} (h : isOr o = true) : o = .Or := by cases o <;> first | rfl | cases h
theorem and2 {a b : Bool} (h : (a && b) = true) : a = true ∧ b = true := (Bool.and_eq_true a b).mp h
/-- not f() with f a name (super()) -/
noncomputable def notSuper (x : Expr) : Bool := !(isCall x fun f es ks _ => nilB es && nilB ks && f.ctorIdx == 23)
/-- f(es), f a name -/
noncomputable def isFun (x : Expr) (k : Str → List Expr → Bool) : Bool := isCall x fun f es ks _ => nilB ks && isNam f fun id _ => k id es
theorem isFun_inv {x : Expr} {k : Str → List Expr → Bool} (h : isFun x k = true) : ∃ id p es pos, x = .Call (.Name id p) es [] pos ∧ k id es = true := by
  obtain ⟨f, es, ks, pos, rfl, h⟩ := isCall_inv h
  obtain ⟨h1, h⟩ := and2 h
  obtain ⟨id, p, rfl, h⟩ := isNam_inv h
  rw [nilB_inv h1]
  exact ⟨id, p, es, pos, rfl, h⟩
/-- o.n(es) -/
noncomputable def isMet (x : Expr) (k : Expr → Str → Pos → List Expr → Pos → Bool) : Bool := isCall x fun f es ks pos => nilB ks && isAtt f fun o n p => k o n p es pos
theorem isMet_inv {x : Expr} {k : Expr → Str → Pos → List Expr → Pos → Bool} (h : isMet x k = true) : ∃ o n p es pos, x = .Call (.Attribute o n p) es [] pos ∧ k o n p es pos = true := by
  obtain ⟨f, es, ks, pos, rfl, h⟩ := isCall_inv h
  obtain ⟨h1, h⟩ := and2 h
  obtain ⟨o, n, p, rfl, h⟩ := isAtt_inv h
  rw [nilB_inv h1]
  exact ⟨o, n, p, es, pos, rfl, h⟩
/-- [y for x in it] -/
noncomputable def isCmpr (e : Expr) (k : Expr → Str → Expr → Scope → Bool) : Bool := isCom e fun y gs sc _ => one gs fun g => nilB g.ifs && g.is_async == 0 && isNam g.target fun x _ => k y x g.iter sc
theorem isCmpr_inv {e : Expr} {k : Expr → Str → Expr → Scope → Bool} (h : isCmpr e k = true) : ∃ y x p it sc pos, e = .ListComp y [⟨.Name x p, it, [], 0⟩] sc pos ∧ k y x it sc = true := by
  obtain ⟨y, gs, sc, pos, rfl, h⟩ := isCom_inv h
  obtain ⟨⟨t, it, ifs, as⟩, rfl, h⟩ := one_inv h
  obtain ⟨h1, h⟩ := and2 h
  obtain ⟨h1, h2⟩ := and2 h1
  obtain ⟨x, p, e, h⟩ := isNam_inv h
  cases e
  cases nilB_inv h1
  cases eq_of_beq h2
  exact ⟨y, x, p, it, sc, pos, rfl, h⟩
/-- a subscript that is a slice -/
noncomputable def isSlc2 (x : Expr) (k : Expr → Option Expr → Option Expr → Bool) : Bool := isSub x fun a i _ => isSlc i fun u v w _ => noneB w && k a u v
theorem isSlc2_inv {x : Expr} {k : Expr → Option Expr → Option Expr → Bool} (h : isSlc2 x k = true) : ∃ a u v q pos, x = .Subscript a (.Slice u v none q) pos ∧ k a u v = true := by
  obtain ⟨a, i, pos, rfl, h⟩ := isSub_inv h
  obtain ⟨u, v, w, q, rfl, h⟩ := isSlc_inv h
  obtain ⟨h1, h⟩ := and2 h
  rw [noneB_inv h1]
  exact ⟨a, u, v, q, pos, rfl, h⟩
noncomputable def isCmp1 (x : Expr) (k : Expr → CmpOp → Expr → Bool) : Bool := isCmp x fun a os rs _ => one os fun o => one rs fun r => k a o r
theorem isCmp1_inv {x : Expr} {k : Expr → CmpOp → Expr → Bool} (h : isCmp1 x k = true) : ∃ a o r pos, x = .Compare a [o] [r] pos ∧ k a o r = true := by
  obtain ⟨a, os, rs, pos, rfl, h⟩ := isCmp_inv h
  obtain ⟨o, rfl, h⟩ := one_inv h
  obtain ⟨r, rfl, h⟩ := one_inv h
  exact ⟨a, o, r, pos, rfl, h⟩
mutual
noncomputable def ckE (nm : NM) (vs : List Str) : IE → Expr → Bool
  | .none, e => isCst e fun c _ _ => cstN c
  | .bool b, e => isCst e fun c _ _ => cstB c b
  | .int i, e => isCst e fun c _ _ => cstI c i
  | .byt b, e => isCst e fun c _ _ => cstY c b
  | .var x, e => isNam e fun id _ => vs[x]? == some id && id != debugStr
  | .glob i, e => isNam e fun id _ => isGlob nm id && gints.lookup id == some i
  | .bin op a b, e => isBin e fun l o r _ => bopOk op o && ckE nm vs a l && ckE nm vs b r
  | .neg a, e => isUna e fun o x _ => isUSub o && ckE nm vs a x
  | .unot _, _ => false
  | .ands l, e => isBoo e fun o es _ => isAnd o && ckEs nm vs l es
  | .ors l, e => isBoo e fun o es _ => isOr o && ckEs nm vs l es
  | .cmp op a b, e => isCmp1 e fun l o r => copOk op o && notSet r && ckE nm vs a l && ckE nm vs b r
  | .ite t a b, e => isIte e fun x y z _ => ckT nm vs t x && ckE nm vs a y && ckE nm vs b z
  | .call f args, e => isFun e fun id es => isGlob nm id && gfuns.lookup id == some f && ckEs nm vs args es && decide (es.length < 30)
  | .new C args, e => isFun e fun id es => isGlob nm id && gclss.lookup id == some C && ckEs nm vs args es && decide (es.length < 30)
  | .bi b args, e => isFun e fun id es => isGlob nm id && id == biStr b && ckEs nm vs args es && decide (es.length < 30)
  | .meth m o args, e => isMet e fun x n p es pos => n == miStr m && notSuper x && p.endLine == pos.line && ckE nm vs o x && ckEs nm vs args es && decide (es.length < 20)
  | .toB o k, e => isMet e fun x n p es pos => n == toBytesStr && notSuper x && p.endLine == pos.line && ckE nm vs o x && twoB es fun a b => isCst b (fun c _ _ => cstS c bigStr) && notStar a && ckE nm vs k a
  | .um n o args, e => isMet e fun x a p es pos => umStr n == some a && notSuper x && p.endLine == pos.line && ckE nm vs o x && ckEs nm vs args es && decide (es.length < 20)
  | .attr o n, e => isAtt e fun x a _ => a == n.str && notSuper x && ckE nm vs o x
  | .idx o i, e => isSub e fun x k _ => notSlice k && ckE nm vs o x && ckE nm vs i k
  | .slcL o lo, e => isSlc2 e fun x u v => noneB v && ckE nm vs o x && someB u fun a => ckE nm vs lo a
  | .slcH o hi, e => isSlc2 e fun x u v => noneB u && ckE nm vs o x && someB v fun b => ckE nm vs hi b
  | .slcB o lo hi, e => isSlc2 e fun x u v => ckE nm vs o x && someB u (fun a => ckE nm vs lo a) && someB v fun b => ckE nm vs hi b
  | .list l, e => isLst e fun es _ => ckEs nm vs l es
  | .tup l, e => isTup e fun es _ _ => ckEs nm vs l es
  | .compR caps elt n, e => isCmpr e fun y x it sc => isFun it fun rg es => one es fun k =>
    isGlob nm rg && rg == rangeStr && notStar k && ckE nm vs n k && compOk nm vs caps x sc && ckE (ownKinds nm sc.names) (x :: capNames vs caps) elt y
  | .compL caps elt src, e => isCmpr e fun y x it sc =>
    notSet it && ckE nm vs src it && compOk nm vs caps x sc && ckE (ownKinds nm sc.names) (x :: capNames vs caps) elt y
noncomputable def ckT (nm : NM) (vs : List Str) : IE → Expr → Bool
  | .unot a, e => isUna e fun o x _ => isNot o && ckT nm vs a x
  | .ands l, e => isBoo e fun o es _ => isAnd o && ckTs nm vs l es
  | .ors l, e => isBoo e fun o es _ => isOr o && ckTs nm vs l es
  | .cmp op a b, e => isCmp1 e fun l o r => copOk op o && notSet r && ckE nm vs a l && ckE nm vs b r
  | .var x, e => isNam e fun id _ => vs[x]? == some id && id != debugStr
  | .bool b, e => isCst e fun c _ _ => cstB c b
  | .call f args, e => isFun e fun id es => isGlob nm id && gfuns.lookup id == some f && ckEs nm vs args es && decide (es.length < 30)
  | _, _ => false
noncomputable def ckEs (nm : NM) (vs : List Str) : IEs → List Expr → Bool
  | .nil, l => nilB l
  | .cons e r, l => consB l fun x xs => notStar x && ckE nm vs e x && ckEs nm vs r xs
noncomputable def ckTs (nm : NM) (vs : List Str) : IEs → List Expr → Bool
  | .nil, l => nilB l
  | .cons e r, l => consB l fun x xs => ckT nm vs e x && ckTs nm vs r xs
end
noncomputable def namesAre (vs : List Str) : List Nat → List Expr → Bool
  | [], l => nilB l
  | i :: is, l => consB l fun e es => isNam e (fun id _ => vs[i]? == some id) && namesAre vs is es
noncomputable def plainTup : Expr → Bool
  | .Tuple es _ _ => !(es.all (constantsAlone 8)) || es.all (foldedForSure 8)
  | _ => true
mutual
noncomputable def ckS (nm : NM) (vs : List Str) : IS → Stmt → Bool
  | .assign x e, s => isAsg s fun ts y _ => one ts fun t => isNam t fun id _ => vs[x]? == some id && notComp y && ckE nm vs e y
  | .assignT xs e, s => isAsg s fun ts y _ => one ts fun t => isTup t fun es _ _ => namesAre vs xs es && decide xs.Nodup && plainTup y && notComp y && ckE nm vs e y
  | .setAttr o n e, s => isAsg s fun ts y _ => one ts fun t => isAtt t fun x a _ => a == n.str && notComp y && ckE nm vs o x && ckE nm vs e y
  | .setItem o i e, s => isAsg s fun ts y _ => one ts fun t => isSub t fun x k _ => notSlice k && notComp y && ckE nm vs o x && ckE nm vs i k && ckE nm vs e y
  | .aug x op e, s => isAug s fun t o y _ => isNam t fun id _ => vs[x]? == some id && bopOk op o && ckE nm vs e y
  | .expr e, s => isExp s fun y _ => notComp y && ckE nm vs e y
  | .ret e, s => isRet s fun y _ => someB y fun y => ckE nm vs e y
  | .ifs t a b, s => isIf s fun x p q _ => ckT nm vs t x && ckSs nm vs a p && ckSs nm vs b q
  | .whil t b, s => isWhi s fun x p q _ => nilB q && ckT nm vs t x && ckSs nm vs b p
  | .forL x src b, s => isFor s fun t it p q _ => nilB q && isNam t fun id _ => vs[x]? == some id && notSet it && ckE nm vs src it && ckSs nm vs b p
  | .forR x n b, s => isFor s fun t it p q _ => nilB q && isNam t fun id _ => isFun it fun rg es => one es fun k => vs[x]? == some id && isGlob nm rg && rg == rangeStr && notStar k && ckE nm vs n k && ckSs nm vs b p
  | .forR3 x a n st b, s => isFor s fun t it p q _ => nilB q && isNam t fun id _ => isFun it fun rg es => consB es fun i r => twoB r fun j k =>
    vs[x]? == some id && isGlob nm rg && rg == rangeStr && notStar i && notStar j && notStar k && ckE nm vs a i && ckE nm vs n j && ckE nm vs st k && ckSs nm vs b p
  | .bad, _ => true
noncomputable def ckSs (nm : NM) (vs : List Str) : ISs → List Stmt → Bool
  | .nil, l => nilB l
  | .cons e r, l => consB l fun x xs => ckS nm vs e x && ckSs nm vs r xs
end
end Mine
end
section
open PySem PySem.W PySem.Calls PyProof.Rows
namespace Mine
abbrev M (w : World) : Model := model pw w
/-- how a tree's answer must be taken -/
noncomputable def Cont (base : Heap) (ρ : List Addr) (s : Shared) (Q : PQ) (Qc : Value → Shared → Prop) : Prop :=
  ∀ ρ' H' v v' h' tk, Q v H' → Ext ρ s.heap ρ' h' → St base ρ' H' h' → VM ρ' v v' → Qc v' { s with heap := h', toks := tk }
section
variable {w : World} {A : Around} {E : Value → Shared → Prop} {s : Shared} {base : Heap} {ρ : List Addr} {H : AH} {Q : PQ} {Qc : Value → Shared → Prop}
theorem Cont.same (C : Cont base ρ s Q Qc) (S : St base ρ H s.heap) {v : AV} {v' : Value} (q : Q v H) (m : VM ρ v v') (tk : Nat) : Qc v' { s with toks := tk } :=
  C ρ H v v' s.heap tk q (Ext.refl ..) S m
theorem Cont.kept (C : Cont base ρ s Q Qc) (S : St base ρ H s.heap) {v : AV} {v' : Value} {h' : Heap} (k : ∀ b o, s.heap.get? b = some o → h'.get? b = some o) (q : Q v H) (m : VM ρ v v') (tk : Nat) : Qc v' { s with heap := h', toks := tk } :=
  C ρ H v v' h' tk q (Ext.grown k) (S.grown k) m
theorem push_free (h : Heap) : h.get? h.objs.size = none := by
  cases q : h.get? h.objs.size with
  | none => rfl
  | some o => exact absurd (Heap.lt_size q) (Nat.lt_irrefl _)
/-- a new object on top -/
theorem Cont.fresh (C : Cont base ρ s Q Qc) (S : St base ρ H s.heap) {x : AO} {o : Obj} (hf : o.isFreed = false) (m : OM (ρ ++ [s.heap.objs.size]) x o) (q : Q (.ref H.length) (H ++ [x])) (tk : Nat) :
    Qc (.ref s.heap.objs.size) { s with heap := s.heap.push o, toks := tk } := by
  have z := S.alloc (h' := s.heap.push o) (a := s.heap.objs.size) (o := o) (x := x) (fun b ob e => Heap.get?_push_of_some _ e) (push_free _) (Heap.get?_push_size _ hf) m
  exact C _ _ (.ref H.length) _ _ tk q z.2 z.1 ⟨_, rfl, get_at _ S.len⟩
/-- the object that a reference means -/
theorem St.look (S : St base ρ H s.heap) {n : Nat} {v : Value} {x : AO} (hv : VM ρ (.ref n) v) (hx : H[n]? = some x) : ∃ a o, v = .ref a ∧ ρ[n]? = some a ∧ s.heap.get? a = some o ∧ OM ρ x o := by
  obtain ⟨a, rfl, ha⟩ := hv
  obtain ⟨b, o, e1, e2, m⟩ := S.obj n x hx
  rw [ha] at e1; cases e1
  exact ⟨a, o, rfl, ha, e2, m⟩
theorem St.list (S : St base ρ H s.heap) {n : Nat} {v : Value} {vs : List AV} (hv : VM ρ (.ref n) v) (hx : H[n]? = some (.list vs)) :
    ∃ a its k, v = .ref a ∧ ρ[n]? = some a ∧ s.heap.get? a = some ({ cls := .type "list", data := .seq (List.toArray its) k } : Obj) ∧ VMs ρ vs its := by
  obtain ⟨a, o, rfl, ha, e, its, k, rfl, m⟩ := S.look hv hx
  exact ⟨a, its, k, rfl, ha, e, m⟩

theorem noPy {x y : Int} (h : y.natAbs < 1073741824) : Builtin.divisionGoesByPylong x y = false := PyProof.noPylong_small h
theorem bits64 {x : Int} (h : x.natAbs < 2 ^ 64) : Builtin.Int.intBits x ≤ 64 := intBits_le_64 (by omega) (by omega)
theorem flat_one {α : Type} (v : α) : ∀ (n : Nat) (acc : List α), (List.replicate n #[v]).foldl (fun x y => x ++ y) acc.toArray = (acc ++ List.replicate n v).toArray
  | 0, acc => by simp
  | n + 1, acc => by
    rw [List.replicate_succ, List.foldl_cons, List.append_toArray, flat_one v n (acc ++ [v]), List.append_assoc]
    rfl
theorem mulList {l : Addr} {items : Array Value} {k : Nat} {x : Int} {u : Tok} {Qc : Value → Shared → Prop}
    (hl : s.heap.get? l = some { cls := .type "list", dict := none, data := .seq items k, slots := #[] })
    (hlo : -(2 ^ 63 : Int) ≤ x) (hhi : x < 2 ^ 63) (hsz : items.size * x.toNat ≤ 2 ^ 24)
    (h : Qc (.ref s.heap.objs.size) { s with heap := s.heap.push { cls := .type "list", data := .seq (List.foldl (fun x1 x2 => x1 ++ x2) #[] (List.replicate (if items.isEmpty = true then 0 else x.toNat) items)) } }) :
    wpAny (M w) A (binaryOp .Mult (.ref l) (.int x u)) Qc E s :=
  wpAny_binaryOp_repeat_ref (T := "list") (U := "int") (by decide) ⟨_, hl, rfl⟩ (fun s' => typeIs_int s' x u) noFill_list_mul F.fills_int_mul F.slot_int_rmul repeat_list F.slot_int_index.lookup
    (call_meets F.slot_int_rmul (typeIs_int s x u) F.entry_int_rmul (F.args_int_rmul_2 _ _) (int___rmul___int_list x u l items k)
      ⟨hl, rfl, ⟨_, hl, rfl⟩, call_meets F.slot_list_mul ⟨_, hl, rfl⟩ F.entry_list_mul (F.args_list_mul_2 _ _)
        (AutoListH.list___mul___list_int_3 l items k x u (by simp [Builtin.List.listFitsIndex]; omega) (by omega) (by simp [Builtin.List.listTooLong, sizeLine]; omega))
        ⟨hl, h⟩⟩)
theorem VMs.replicate {ρ : List Addr} {v : AV} {v' : Value} (h : VM ρ v v') : ∀ n : Nat, VMs ρ (List.replicate n v) (List.replicate n v')
  | 0 => rfl
  | n + 1 => ⟨v', _, rfl, h, VMs.replicate h n⟩
theorem binA_sound {op : BOp} {o : Operator} {a b : AV} {a' b' : Value} (ho : bopOk op o = true) (h : binA op a b H Q) (S : St base ρ H s.heap) (ma : VM ρ a a') (mb : VM ρ b b') (C : Cont base ρ s Q Qc) :
    wpAny (M w) A (binaryOp o a' b') Qc E s := by
  cases bopOk_eq ho
  cases op with
  | add =>
    cases a <;> first | exact False.elim h | skip
    · obtain ⟨y, rfl, h⟩ := onInt_inv (k := fun y H => Q (.int (_ + y)) H) h
      obtain ⟨t, rfl⟩ := ma; obtain ⟨u, rfl⟩ := mb
      exact add_int (C.same S h ⟨_, rfl⟩ _)
    · obtain ⟨y, rfl, h⟩ := onByt_inv (k := fun y H => List.length _ + y.length < 100000 ∧ Q (.byt (_ ++ y)) H) h
      obtain ⟨t, rfl⟩ := ma; obtain ⟨u, rfl⟩ := mb
      refine KBy.add_bytes (by simp only [List.size_toArray]; exact om481 ‹_›) fun t' k => ?_
      rw [List.append_toArray]
      exact C.same S h.2 ⟨_, rfl⟩ _
    · obtain ⟨j, rfl, vs, ws, e1, e2, hz, q⟩ := onRef_inv (k := addR _ Q) h
      obtain ⟨a, its, k, rfl, _, g1, m1⟩ := S.list ma e1
      obtain ⟨b, its2, k2, rfl, _, g2, m2⟩ := S.list mb e2
      refine concat_meets ⟨_, g1, rfl⟩ ⟨_, g2, rfl⟩ noFill_list_add seq_list_add PySem.F.slot_list_add PySem.F.entry_list_add (PySem.F.args_list_add_2 _ _)
        (list_addW a b its.toArray its2.toArray k k2 none none #[] #[] (by have := m1.length; have := m2.length; simp only [List.size_toArray]; rw [sizeLine_eq]; exact om482 hz ‹_› this)) ⟨g1, g2, ?_⟩
      rw [List.append_toArray]
      exact C.fresh (x := .list (vs ++ ws)) S rfl ⟨_, _, rfl, (m1.append m2).mono ⟨_, rfl⟩⟩ q _
  | mul =>
    cases a <;> first | exact False.elim h | skip
    · obtain ⟨y, rfl, h⟩ := onInt_inv (k := fun y H => (Int.natAbs _ < 2 ^ 64 ∨ y.natAbs < 2 ^ 64) ∧ Q (.int (_ * y)) H) h
      obtain ⟨t, rfl⟩ := ma; obtain ⟨u, rfl⟩ := mb
      exact mul_int (C.same S h.2 ⟨_, rfl⟩ _) (h.1.elim (fun q => IntMulOk.of_left (bits64 q)) fun q => IntMulOk.of_right (bits64 q))
    · obtain ⟨n0, rfl, h1, h2, h3, h4⟩ := onInt_inv (k := fun n H => List.length _ = 1 ∧ 0 ≤ n ∧ n < 100000 ∧ Q (.byt (List.replicate n.toNat _).flatten) H) h
      obtain ⟨t, rfl⟩ := ma; obtain ⟨u, rfl⟩ := mb
      exact bytes_mul_any (by intro e; rw [e] at h1; cases h1) (om483 h2) (om484 h3) (om485 h1) fun t' k => C.same S h4 ⟨_, rfl⟩ _
    · obtain ⟨n0, rfl, v, e1, h0, h1, q⟩ := onInt_inv (k := mulR _ Q) h
      obtain ⟨a, its, k, rfl, _, g1, m1⟩ := S.list ma e1
      obtain ⟨u, rfl⟩ := mb
      obtain ⟨v', r, rfl, mv, mr⟩ := m1
      cases mr
      refine mulList g1 (by omega) (by omega) (by simp; exact om486 h1) ?_
      have z := flat_one v' (Int.toNat n0) []
      simp only [List.nil_append] at z
      rw [if_neg (by simp)]
      rw [z]
      exact C.fresh (x := .list _) S rfl ⟨_, _, rfl, (VMs.replicate mv _).mono ⟨_, rfl⟩⟩ q _
  | sub =>
    obtain ⟨x, y, rfl, rfl, h⟩ := onInt2_inv h
    obtain ⟨t, rfl⟩ := ma; obtain ⟨u, rfl⟩ := mb
    exact sub_int (C.same S h ⟨_, rfl⟩ _)
  | fdiv =>
    obtain ⟨x, y, rfl, rfl, h⟩ := onInt2_inv h
    obtain ⟨t, rfl⟩ := ma; obtain ⟨u, rfl⟩ := mb
    exact floordiv_int (Int.ne_of_gt h.1.1) (C.same S h.2 ⟨_, by rw [Int.fdiv_eq_ediv_of_nonneg _ (Int.le_of_lt h.1.1)]⟩ _) (.inl (noPy (om487 ‹_›)))
  | mod =>
    obtain ⟨x, y, rfl, rfl, h⟩ := onInt2_inv h
    obtain ⟨t, rfl⟩ := ma; obtain ⟨u, rfl⟩ := mb
    exact mod_int' (Int.ne_of_gt h.1) (C.same S h.2 ⟨_, by rw [Int.fmod_eq_emod_of_nonneg _ (Int.le_of_lt h.1)]⟩ _)
  | band =>
    obtain ⟨x, y, rfl, rfl, h⟩ := onInt2_inv h
    obtain ⟨t, rfl⟩ := ma; obtain ⟨u, rfl⟩ := mb
    exact and_int (C.same S h ⟨_, rfl⟩ _)
  | bor =>
    obtain ⟨x, y, rfl, rfl, h⟩ := onInt2_inv h
    obtain ⟨t, rfl⟩ := ma; obtain ⟨u, rfl⟩ := mb
    exact or_int (C.same S h ⟨_, rfl⟩ _)
  | shl =>
    obtain ⟨x, y, rfl, rfl, h⟩ := onInt2_inv h
    obtain ⟨t, rfl⟩ := ma; obtain ⟨u, rfl⟩ := mb
    exact lshift_int_small h.1.1 (om488 ‹_›) h.1.2.2 (C.same S h.2 ⟨_, rfl⟩ _)
  | shr =>
    obtain ⟨x, y, rfl, rfl, h⟩ := onInt2_inv h
    obtain ⟨t, rfl⟩ := ma; obtain ⟨u, rfl⟩ := mb
    exact rshift_int h.1 (C.same S h.2 ⟨_, by rw [Int.fdiv_eq_ediv_of_nonneg _ (Int.le_of_lt (Int.pow_pos (by decide)))]⟩ _)
  | pow =>
    obtain ⟨x, y, rfl, rfl, h⟩ := onInt2_inv h
    obtain ⟨t, rfl⟩ := ma; obtain ⟨u, rfl⟩ := mb
    refine pow_int h.1.1 ?_ (C.same S h.2 ⟨_, rfl⟩ _)
    have b1 := bits64 h.1.2.2
    have : (Builtin.Int.intBits x : Int) * y ≤ 64 * y := Int.mul_le_mul_of_nonneg_right (om489 b1) h.1.1
    omega
end
end Mine
end
section
open PySem PySem.W PySem.Calls PyProof.Rows PySem.SeqAt PySem.MeetsSeq PySem.AutoSeq1
set_option maxHeartbeats 2000000
namespace Mine
section
variable {w : World} {A : Around} {E : Value → Shared → Prop} {s : Shared} {base : Heap} {ρ : List Addr} {H : AH} {Q : PQ} {Qc : Value → Shared → Prop}
theorem eqAt_prim {a : AV} {v v' : Value} (p : IsPrim a) (m : VM ρ a v) (m' : VM ρ a v') : EqAt A s v v' true := by
  cases a with
  | none => cases m; cases m'; exact EqAt.same _
  | bool b => cases m; cases m'; exact EqAt.same _
  | int i =>
    obtain ⟨t, rfl⟩ := m; obtain ⟨u, rfl⟩ := m'
    have z := EqAt.int_int (A := A) (s := s) i t i u
    rwa [beq_self_eq_true] at z
  | byt b =>
    obtain ⟨t, rfl⟩ := m; obtain ⟨u, rfl⟩ := m'
    exact fun prog w E Q hq => eqBool_bytes (by rw [decide_eq_true rfl]; exact hq)
  | ref n => exact p.elim
theorem isList_of {h : Heap} {a : Addr} {its : List Value} {k : Nat} (e : h.get? a = some ({ cls := .type "list", data := .seq its.toArray k } : Obj)) : h.IsList a its.toArray := ⟨_, e, rfl, k, rfl⟩
theorem eqAts {vs : List AV} {xs ys : List Value} (p : ∀ v ∈ vs, IsPrim v) (m : VMs ρ vs xs) (m' : VMs ρ vs ys) : ∀ j (h1 : j < xs.toArray.size) (h2 : j < ys.toArray.size), EqAt A s xs.toArray[j] ys.toArray[j] true := by
  intro j h1 h2
  simp only [List.size_toArray] at h1 h2
  have hj : j < vs.length := by rw [← m.length]; exact h1
  obtain ⟨v, e1, n1⟩ := m.get (List.getElem?_eq_getElem hj)
  obtain ⟨v', e2, n2⟩ := m'.get (List.getElem?_eq_getElem hj)
  rw [List.getElem?_eq_getElem h1] at e1
  rw [List.getElem?_eq_getElem h2] at e2
  cases e1; cases e2
  simpa using eqAt_prim (A := A) (s := s) (p _ (List.getElem_mem hj)) n1 n2
theorem allTrue (n : Nat) : (List.range n).all (fun _ => true) = true := by simp
theorem rc_lists {vs : List AV} {a b : Addr} {xs ys : List Value} {k l : Nat} (hu : A.units < cLine) (p : ∀ v ∈ vs, IsPrim v) (g1 : s.heap.get? a = some ({ cls := .type "list", data := .seq xs.toArray k } : Obj)) (g2 : s.heap.get? b = some ({ cls := .type "list", data := .seq ys.toArray l } : Obj)) (m : VMs ρ vs xs) (m' : VMs ρ vs ys) :
    RcAt A s (.ref a) (.ref b) true := by
  have := RcAt.lists (A := A) (isList_of g1) (isList_of g2) (e := fun _ => true) (by simp [m.length, m'.length]) hu (eqAts p m m')
  rwa [allTrue] at this

abbrev Un (A : Around) : Prop := A.units + 100 < cLine
theorem rc_ne_len {a b : Addr} {xs ys : List Value} {k l : Nat} (hu : A.units < cLine) (hn : xs.length ≠ ys.length) (g1 : s.heap.get? a = some ({ cls := .type "list", data := .seq xs.toArray k } : Obj)) (g2 : s.heap.get? b = some ({ cls := .type "list", data := .seq ys.toArray l } : Obj)) :
    RcAt A s (.ref a) (.ref b) false := RcAt.lists_lengths (isList_of g1) (isList_of g2) (by simpa using hn) hu
theorem eqA_sound {a b : AV} {a' b' : Value} {P : Bool → Prop} (hu : Un A) (h : eqA a b H P) (S : St base ρ H s.heap) (ma : VM ρ a a') (mb : VM ρ b b') (k : ∀ r tk, P r → Qc (.bool r) { s with toks := tk }) :
    wpAny (M w) A (compareOp .Eq a' b') Qc E s := by
  have hu' : A.units < cLine := by unfold Un at hu; exact om490 hu
  cases a <;> first | exact False.elim h | skip
  · obtain ⟨y, rfl, h⟩ := onInt_inv (H := H) (k := fun y _ => P (decide (_ = y))) h
    obtain ⟨t, rfl⟩ := ma; obtain ⟨u, rfl⟩ := mb
    exact eq_int (k _ s.toks h)
  · rename_i x
    obtain ⟨y, rfl, h⟩ := onByt_inv (H := H) (k := fun y _ => P (decide (_ = y))) h
    obtain ⟨t, rfl⟩ := ma; obtain ⟨u, rfl⟩ := mb
    refine eq_bytes ?_
    have := k _ s.toks h
    have e : (x.toArray.toList == y.toArray.toList) = decide (x = y) := by rw [Bool.eq_iff_iff]; simp
    rw [e]; exact this
  · obtain ⟨j, rfl, h⟩ := onRef_inv (k := fun j H => eqR _ j H P) h
    rcases h with ⟨vs, ws, e1, e2, h⟩ | ⟨x, y, c, d, e1, e2, ⟨vs, m, rfl, e3, p, n, rfl, e4⟩, rfl, pb, h⟩
    · obtain ⟨p, xs, i1, rfl, _, g1, m1⟩ := S.list ma e1
      obtain ⟨q, ys, i2, rfl, _, g2, m2⟩ := S.list mb e2
      rcases h with ⟨hn, h⟩ | ⟨rfl, hp, h⟩
      · exact rc_ne_len hu' (by rw [m1.length, m2.length]; exact hn) g1 g2 _ w E _ (k _ s.toks h)
      · exact rc_lists hu' hp g1 g2 m1 m2 _ w E _ (k _ s.toks h)
    · obtain ⟨p1, o1, rfl, _, g1, its1, k1, rfl, m1⟩ := S.look ma e1
      obtain ⟨p2, o2, rfl, _, g2, its2, k2, rfl, m2⟩ := S.look mb e2
      obtain ⟨u1, r1, rfl, n1, v1, r1', rfl, q1, z1⟩ := m1
      obtain ⟨u2, r2, rfl, n2, v2, r2', rfl, q2, z2⟩ := m2
      cases z1; cases z2
      obtain ⟨l1, xs, i1, rfl, l1a, f1, x1⟩ := S.list n1 e3
      obtain ⟨l2, ys, i2, rfl, l2a, f2, x2⟩ := S.list n2 e4
      have hu2 : A.in1.units < cLine := by show A.units + 1 < cLine; unfold Un at hu; exact om491 hu
      have ee : EqAt A.in1 s (.ref l1) (.ref l2) true := by
        by_cases q : l1 = l2
        · subst q; exact EqAt.same _
        · exact EqAt.of_refs q (rc_lists hu2 p f1 f2 x1 x2)
      have t := RcAt.tuples (A := A) (s := s) (l := p1) (b := p2) (items := #[.ref l1, v1]) (items2 := #[.ref l2, v2]) (e := fun _ => true) ⟨_, g1, rfl, _, rfl⟩ ⟨_, g2, rfl, _, rfl⟩ hu' (fun j h1 h2 => by
        have h1' : j < 2 := h1
        match j, h1' with
        | 0, _ => exact ee
        | 1, _ => exact eqAt_prim pb q1 q2)
      have t' : RcAt A s (.ref p1) (.ref p2) true := t
      exact t' _ w E _ (k _ s.toks h)
theorem cmpA_sound {op : COp} {o : CmpOp} {a b : AV} {a' b' : Value} (hu : Un A) (ho : copOk op o = true) (h : cmpA op a b H Q) (S : St base ρ H s.heap) (ma : VM ρ a a') (mb : VM ρ b b') (C : Cont base ρ s Q Qc) :
    wpAny (M w) A (compareOp o a' b') Qc E s := by
  cases copOk_eq ho
  cases op with
  | eq => exact eqA_sound (P := fun r => Q (.bool r) H) hu h S ma mb fun r tk q => C.same (v := .bool r) S q rfl tk
  | ne =>
    cases a <;> first | exact False.elim h | skip
    · obtain ⟨y, rfl, h⟩ := onInt_inv (k := fun y H => Q (.bool (_ != y)) H) h
      obtain ⟨t, rfl⟩ := ma; obtain ⟨u, rfl⟩ := mb
      exact ne_int (C.same S h rfl _)
    · obtain ⟨y, rfl, h⟩ := onByt_inv (k := fun y H => Q (.bool (_ != y)) H) h
      obtain ⟨t, rfl⟩ := ma; obtain ⟨u, rfl⟩ := mb
      refine ne_bytes ?_
      have z := C.same S h (v' := .bool _) rfl s.toks
      exact z
    · obtain ⟨j, rfl, h⟩ := onRef_inv (k := neR _ Q) h
      obtain ⟨vs, ws, e1, e2, h⟩ := h
      have hu' : A.units < cLine := by unfold Un at hu; exact om490 hu
      obtain ⟨p, xs, i1, rfl, _, g1, m1⟩ := S.list ma e1
      obtain ⟨q, ys, i2, rfl, _, g2, m2⟩ := S.list mb e2
      rcases h with ⟨hn, h⟩ | ⟨rfl, rfl, h⟩
      · exact RcNeAt.lists_lengths (isList_of g1) (isList_of g2) (by simpa [m1.length, m2.length] using hn) hu' _ w E _ (C.same S h rfl s.toks)
      · cases m1; cases m2
        have t := RcNeAt.lists (A := A) (s := s) (isList_of g1) (isList_of g2) (e := fun _ => true) rfl hu' (fun j h1 _ => absurd h1 (Nat.not_lt_zero _))
        have t' : RcNeAt A s (.ref p) (.ref q) false := by simpa using t
        exact t' _ w E _ (C.same S h rfl s.toks)
  | lt =>
    obtain ⟨x, y, rfl, rfl, h⟩ := onInt2_inv h
    obtain ⟨t, rfl⟩ := ma; obtain ⟨u, rfl⟩ := mb
    exact lt_int (C.same S h rfl _)
  | le =>
    obtain ⟨x, y, rfl, rfl, h⟩ := onInt2_inv h
    obtain ⟨t, rfl⟩ := ma; obtain ⟨u, rfl⟩ := mb
    exact le_int (C.same S h rfl _)
  | gt =>
    obtain ⟨x, y, rfl, rfl, h⟩ := onInt2_inv h
    obtain ⟨t, rfl⟩ := ma; obtain ⟨u, rfl⟩ := mb
    exact gt_int (C.same S h rfl _)
  | ge =>
    obtain ⟨x, y, rfl, rfl, h⟩ := onInt2_inv h
    obtain ⟨t, rfl⟩ := ma; obtain ⟨u, rfl⟩ := mb
    exact ge_int (C.same S h rfl _)
theorem truA_sound {v : AV} {v' : Value} {P : Bool → AH → Prop} {Qb : Bool → Shared → Prop} (h : truA v H P) (S : St base ρ H s.heap) (m : VM ρ v v') (k : ∀ b tk, P b H → Qb b { s with toks := tk }) : wpAny (M w) A (truthy v') Qb E s := by
  cases v <;> first | exact False.elim h | skip
  · cases m; exact wpAny_truthy_bool (k _ s.toks h)
  · obtain ⟨t, rfl⟩ := m
    exact truthy_int (k _ s.toks h)
end
end Mine
end
section
open PySem PySem.W PySem.Calls PyProof.Rows PySem.SeqAt PySem.MeetsSeq PySem.AutoSeq1
set_option maxHeartbeats 2000000
namespace Mine
section
variable {w : World} {A : Around} {E : Value → Shared → Prop} {s : Shared} {base : Heap} {ρ : List Addr} {H : AH} {Q : PQ} {Qc : Value → Shared → Prop}
theorem subscripted_plain {slice : Expr} (h : notSlice slice = true) (o i : Value) : subscripted slice false o i = operate [o, i] (getItem o i) := by
  cases slice <;> first | rfl | (exact absurd h Bool.false_ne_true)
theorem cut_map {ρ : List Addr} {vs : List AV} {xs : List Value} (m : VMs ρ vs xs) (lo hi : Option Int) : VMs ρ (cut vs lo hi) (cut xs lo hi) := by
  unfold cut
  rw [m.length]
  exact (m.drop _).take _
theorem idxA_sound {value slice : Expr} {o i : AV} {o' i' : Value} (hn : notSlice slice = true) (h : idxA o i H Q) (S : St base ρ H s.heap) (mo : VM ρ o o') (mi : VM ρ i i') (C : Cont base ρ s Q Qc) :
    wpAny (M w) A (subscriptTail value slice o' i') Qc E s := by
  cases o <;> first | exact False.elim h | skip
  · obtain ⟨t, rfl⟩ := mo
    obtain ⟨k, rfl, ⟨h0, h1, hz⟩, q⟩ := onInt_inv (k := idxB _ Q) h
    obtain ⟨u, rfl⟩ := mi
    exact tail_any (typeIs_bytes _ _ _) FB.slot_bytes_getitem.lookup (getItem_bytes (om492 hz) h0 h1 (C.same S q ⟨_, rfl⟩ _)) (subscripted_plain hn _ _)
  · rename_i r
    obtain ⟨k, rfl, h⟩ := onInt_inv (k := idxR _ Q) h
    obtain ⟨u, rfl⟩ := mi
    rcases h with ⟨vs, v, e1, hz, hin, e2, q⟩ | ⟨ns, ob, i, e1, hz, h0, e2, q⟩
    rotate_left
    · obtain ⟨a, o, rfl, _, g1, _, hcl, its, c, hd, hi⟩ := S.look mo e1
      obtain ⟨t, e3⟩ := hi.get _ _ e2
      have hl : s.heap.IsList a its.toArray := ⟨o, g1, hcl, c, hd⟩
      have hk : k.toNat < ns.length := (List.getElem?_eq_some_iff.mp e2).1
      exact tail_any hl.typeIs slot_list_getitem.lookup (wpAny_getItem_list hl h0 (by omega) (by simpa using e3) (C.same S q ⟨t, rfl⟩ s.toks)) (subscripted_plain hn _ _)
    obtain ⟨a, its, k0, rfl, _, g1, m1⟩ := S.list mo e1
    have hl := isList_of g1
    obtain ⟨v', e3, m2⟩ := m1.get e2
    have hlen := m1.length
    have g : wpAny (M w) A (getItem (.ref a) (.int k u)) Qc E s := by
      unfold inside at hin
      unfold place at e3
      by_cases hk : k < 0
      · rw [if_pos hk] at e3 hin
        refine wpAny_getItem_list_neg hl hk (by simp only [List.size_toArray]; exact om468 hin hlen) (by omega) ?_ (C.same S q m2 s.toks)
        simpa [hlen] using e3
      · rw [if_neg hk] at e3 hin
        exact wpAny_getItem_list hl (om469 hin) (by omega) (by simpa using e3) (C.same S q m2 s.toks)
    exact tail_any hl.typeIs slot_list_getitem.lookup g (subscripted_plain hn _ _)
theorem slcP_sound {value l u : Expr} {o : AV} {o' vl vu : Value} {lo hi : Option Int} {x y : Option Expr} {p : Pos} (h : slcP o lo hi H Q) (S : St base ρ H s.heap) (mo : VM ρ o o') (pl : IsPart vl lo) (pu : IsPart vu hi) (C : Cont base ρ s Q Qc) :
    wpAny (M w) A (subscriptTail value (.Slice x y none p) o' (.ref s.heap.objs.size)) Qc E { s with heap := s.heap.push { cls := .type "slice", data := .fields #[vl, vu, .none] } } := by
  cases o <;> first | exact False.elim h | skip
  rotate_left
  · obtain ⟨vs, e1, hz, q⟩ := h
    obtain ⟨a, its, k0, rfl, _, g1, m1⟩ := S.list mo e1
    have hl := isList_of g1
    refine tail_any (ops := [_, _]) (hl.push _).typeIs slot_list_getitem.lookup (wpAny_getItem_list_slice (hl.push _) (Heap.IsSliceOf.new _ _ _ _) pl pu .none (by simp) ?_ (by simp only [List.size_toArray, m1.length]; rw [sizeLine_eq]; exact om471 hz)) rfl
    rw [slicePick_plain]
    have hk : ∀ b ob, s.heap.get? b = some ob → (s.heap.push { cls := .type "slice", data := .fields #[vl, vu, .none] }).get? b = some ob := fun b ob e => Heap.get?_push_of_some _ e
    have C' : Cont base ρ { s with heap := s.heap.push { cls := .type "slice", data := .fields #[vl, vu, .none] } } Q Qc := fun ρ' H' v v' h' tk q' x' S' m' => C ρ' H' v v' h' tk q' ((Ext.grown hk).trans (S.grown hk) x') S' m'
    refine C'.fresh (s := { s with heap := s.heap.push { cls := .type "slice", data := .fields #[vl, vu, .none] } }) (x := .list (cut vs lo hi)) (S.grown hk) rfl ⟨_, _, rfl, VMs.mono ⟨_, rfl⟩ ?_⟩ q _
    have := cut_map m1 lo hi
    unfold cut at this ⊢
    simpa using this
  · obtain ⟨t, rfl⟩ := mo
    obtain ⟨hz, q⟩ := h
    have hk : ∀ b ob, s.heap.get? b = some ob → (s.heap.push { cls := .type "slice", data := .fields #[vl, vu, .none] }).get? b = some ob := fun b ob e => Heap.get?_push_of_some _ e
    refine tail_any (ops := [_, _]) (typeIs_bytes _ _ _) FB.slot_bytes_getitem.lookup (getItem_meets (typeIs_bytes _ _ _) (by decide) FB.slot_bytes_getitem FB.entry_bytes_getitem (FB.args_bytes_getitem_2 _ _) (KBc.meets_slice2 _ t _ pl pu)
      ⟨Heap.IsSliceOf.new _ _ _ _, ?_, fun t' k => ?_⟩) rfl
    · refine Nat.le_trans (KBc.size_picked_le _ lo hi) ?_
      rw [List.size_toArray, sizeLine_eq]; exact om471 hz
    · refine C _ _ _ _ _ _ q (Ext.grown hk) (S.grown hk) ⟨t', ?_⟩
      rw [KBc.picked_eq]
      unfold cut
      simp
end
end Mine
end
section
open PySem PySem.W PySem.Calls PyProof.Rows PySem.SeqAt PySem.MeetsSeq PySem.AutoSeq1
set_option maxHeartbeats 2000000
namespace Mine
section
variable {w : World} {A : Around} {E : Value → Shared → Prop} {s : Shared} {base : Heap} {ρ : List Addr} {H : AH} {Q : PQ} {Qc : Value → Shared → Prop}
theorem ints_are {ρ : List Addr} : ∀ {vs : List AV} {ns : List Int} {xs : List Value}, ints? vs = some ns → VMs ρ vs xs → IntsAre xs ns
  | [], ns, _, h, m => by cases h; cases m; exact .nil
  | .int i :: r, ns, _, h, m => by
    obtain ⟨v, q, rfl, ⟨t, rfl⟩, mr⟩ := m
    obtain ⟨l, e, rfl⟩ := Option.map_eq_some_iff.mp h
    exact .cons i t (ints_are e mr)
  | .none :: r, ns, _, h, m => nomatch h
  | .bool _ :: r, ns, _, h, m => nomatch h
  | .byt _ :: r, ns, _, h, m => nomatch h
  | .ref _ :: r, ns, _, h, m => nomatch h
theorem intItems_of {vs : List Value} {ns : List Int} (h : IntsAre vs ns) : ∃ xs : Array (Int × Tok), vs.toArray = intItems xs ∧ xs.toList.map (·.1) = ns := by
  induction h with
  | nil => exact ⟨#[], by simp [intItems], rfl⟩
  | cons n t _ ih =>
    obtain ⟨xs, e1, e2⟩ := ih
    refine ⟨((n, t) :: xs.toList).toArray, ?_, by simp [e2]⟩
    have := congrArg Array.toList e1
    simp only [intItems] at this ⊢
    simp at this ⊢
    exact this
theorem join_text : Builtin.«bytes.join» = Builtin.Bytes.joinM .bytes := rfl
theorem max_sound {x y : Int} {a' b' : Value} (hh : A.handled = none) (h : Q (.int (if x < y then y else x)) H) (S : St base ρ H s.heap) (ma : VM ρ (.int x) a') (mb : VM ρ (.int y) b') (C : Cont base ρ s Q Qc) :
    wpAny (M w) A (call (.builtin "max") [a', b']) Qc E s := by
  obtain ⟨t, rfl⟩ := ma; obtain ⟨u, rfl⟩ := mb
  refine max_two_ints hh fun h' tk k => ?_
  by_cases q : x < y
  · rw [if_pos q]; rw [if_pos q] at h
    exact C.kept S k h ⟨_, rfl⟩ _
  · rw [if_neg q]; rw [if_neg q] at h
    exact C.kept S k h ⟨_, rfl⟩ _
theorem isSub_bytes : isSubtype (.type "bytes") (.type "bytes") = pure true := F.bm_sub
theorem len_sound {a : AV} {a' : Value} (h : lenA a H Q) (S : St base ρ H s.heap) (ma : VM ρ a a') (C : Cont base ρ s Q Qc) : wpAny (M w) A (call (.builtin "len") [a']) Qc E s := by
  cases a <;> first | exact False.elim h | skip
  · obtain ⟨t, rfl⟩ := ma
    obtain ⟨hz, q⟩ := h
    exact len_bytes (by simp only [List.size_toArray]; exact om492 hz) (C.same S q ⟨s.toks + 1, by simp⟩ _)
  · rcases h with ⟨vs, e, hz, q⟩ | ⟨ns, ob, e, hz, q⟩
    · obtain ⟨a, its, k0, rfl, _, g1, m1⟩ := S.list ma e
      have hl := m1.length
      exact call_len_list (isList_of g1) (by simp only [List.size_toArray, hl]; omega) (C.same S q ⟨s.toks + 1, by simp [hl]⟩ _)
    · obtain ⟨a, o, rfl, _, g1, _, hcl, its, c, hd, hi⟩ := S.look ma e
      have hl := hi.length
      exact call_len_list ⟨o, g1, hcl, c, hd⟩ (by simp only [List.size_toArray, hl]; omega) (C.same S q ⟨s.toks + 1, by simp [hl]⟩ _)
theorem int_sound {a : AV} {a' : Value} (h : intA a H Q) (S : St base ρ H s.heap) (ma : VM ρ a a') (C : Cont base ρ s Q Qc) : wpAny (M w) A (call (.type "int") [a']) Qc E s := by
  cases a <;> first | exact False.elim h | skip
  · cases ma; exact call_int_bool (C.same S h ⟨_, rfl⟩ _)
  · obtain ⟨t, rfl⟩ := ma; exact call_int_int (C.same S h ⟨_, rfl⟩ s.toks)
theorem sum_sound {r : Nat} {a' : Value} (hh : A.handled = none) (h : ∃ vs ns, H[r]? = some (.list vs) ∧ ints? vs = some ns ∧ Q (.int ns.sum) H) (S : St base ρ H s.heap) (ma : VM ρ (.ref r) a') (C : Cont base ρ s Q Qc) : wpAny (M w) A (call (.builtin "sum") [a']) Qc E s := by
  obtain ⟨vs, ns, e, ei, q⟩ := h
  obtain ⟨a, its, k0, rfl, _, g1, m1⟩ := S.list ma e
  obtain ⟨xs, ex, ens⟩ := intItems_of (ints_are ei m1)
  have hl := isList_of g1
  rw [ex] at hl
  refine sum_intListG hh hl fun h' tk t' k => ?_
  rw [preSum_eq, ens, List.take_of_length_le (by rw [← ens]; simp)]
  exact C.kept S k q ⟨_, rfl⟩ _
theorem list_sound {r : Nat} {a' : Value} (h : ∃ vs, H[r]? = some (.list vs) ∧ vs.length < 100000 ∧ Q (.ref H.length) (H ++ [.list vs])) (S : St base ρ H s.heap) (ma : VM ρ (.ref r) a') (C : Cont base ρ s Q Qc) : wpAny (M w) A (call (.type "list") [a']) Qc E s := by
  obtain ⟨vs, e, hz, q⟩ := h
  obtain ⟨a, its, k0, rfl, _, g1, m1⟩ := S.list ma e
  refine call_list_seq a (.inl rfl) g1 rfl rfl (fun h' c' k ho => ?_) (by simp only [List.size_toArray, m1.length]; rw [sizeLine_eq]; exact om471 hz)
  have z := S.alloc (x := .list vs) k (push_free _) ho ⟨_, _, rfl, m1.mono ⟨_, rfl⟩⟩
  exact C _ _ (.ref H.length) _ _ s.toks q z.2 z.1 ⟨_, rfl, get_at _ S.len⟩
theorem bytesList_sound {r : Nat} {a' : Value} {vs : List AV} {ns : List Int} (hh : A.handled = none) (e : H[r]? = some (.list vs)) (ei : ints? vs = some ns) (hr : ∀ n ∈ ns, 0 ≤ n ∧ n < 256) (hz : vs.length < 100000) (q : Q (.byt (ns.map fun n => n.toNat.toUInt8)) H)
    (S : St base ρ H s.heap) (ma : VM ρ (.ref r) a') (C : Cont base ρ s Q Qc) : wpAny (M w) A (call (.type "bytes") [a']) Qc E s := by
  obtain ⟨a, its, k0, rfl, _, g1, m1⟩ := S.list ma e
  refine call_bytes_ints (isList_of g1) (ints_are ei m1) hr (by rw [m1.length, sizeLine_eq]; exact om471 hz) hh fun h' t k kk => ?_
  exact C.kept S kk q ⟨t, rfl⟩ _
theorem append_sound {r : Nat} {o' v' : Value} {v : AV} (h : ∃ vs, H[r]? = some (.list vs) ∧ vs.length < 100000 ∧ Q .none (H.set r (.list (vs ++ [v])))) (S : St base ρ H s.heap) (mo : VM ρ (.ref r) o') (mv : VM ρ v v') (C : Cont base ρ s Q Qc) : wpAny (M w) A (call (.builtin "list.append") [o', v']) Qc E s := by
  obtain ⟨vs, e, hz, q⟩ := h
  obtain ⟨a, its, k0, rfl, ha, g1, m1⟩ := S.list mo e
  refine append_at g1 (fun h' hs ho => ?_) (by simp only [List.size_toArray, m1.length]; rw [sizeLine_eq]; exact om471 hz)
  have z := S.put (x := .list (vs ++ [v])) ha (fun b o hb eb => (hs.2 b hb).trans eb) ho ⟨its ++ [v'], k0 + 1, by simp, m1.append (.one mv)⟩
  exact C _ _ .none _ _ s.toks q z.2 z.1 rfl
theorem reverse_sound {r : Nat} {o' : Value} (h : ∃ vs, H[r]? = some (.list vs) ∧ vs.length < 100000 ∧ Q .none (H.set r (.list vs.reverse))) (S : St base ρ H s.heap) (mo : VM ρ (.ref r) o') (C : Cont base ρ s Q Qc) : wpAny (M w) A (call (.builtin "list.reverse") [o']) Qc E s := by
  obtain ⟨vs, e, hz, q⟩ := h
  obtain ⟨a, its, k0, rfl, ha, g1, m1⟩ := S.list mo e
  refine call_meets PySem.F.slot_list_reverse ⟨_, g1, rfl⟩ PySem.F.entry_list_reverse (PySem.F.args_list_reverse_1 _) (PySem.AutoSeq1.list_reverse_list_0 a its.toArray k0 (by simp only [List.size_toArray, m1.length]; rw [sizeLine_eq]; exact om471 hz)) ⟨g1, ?_⟩
  have hu := Heap.get?_update_self (Obj.mapSeq fun x => x.reverse) g1 rfl
  have z := S.put (x := .list vs.reverse) ha (fun b o hb eb => (Heap.get?_update_other _ _ (Ne.symm hb)).trans eb) hu ⟨its.reverse, k0, by rw [PyProof.Rows.mapSeq_reverse], m1.reverse⟩
  exact C _ _ .none _ _ s.toks q z.2 z.1 rfl
theorem VMs.snoc {ρ : List Addr} : ∀ {vs : List AV} {v : AV} {xs : List Value}, VMs ρ (vs ++ [v]) xs → ∃ ys y, xs = ys ++ [y] ∧ VMs ρ vs ys ∧ VM ρ v y
  | [], v, _, ⟨y, r, rfl, m, e⟩ => by cases e; exact ⟨[], y, rfl, rfl, m⟩
  | a :: vs, v, _, ⟨y, r, rfl, m, t⟩ => by
    obtain ⟨ys, z, rfl, m1, m2⟩ := t.snoc
    exact ⟨y :: ys, z, rfl, ⟨y, ys, rfl, m, m1⟩, m2⟩
theorem pop_sound {r : Nat} {o' : Value} (h : ∃ vs v, H[r]? = some (.list (vs ++ [v])) ∧ vs.length < 100000 ∧ Q v (H.set r (.list vs))) (S : St base ρ H s.heap) (mo : VM ρ (.ref r) o') (C : Cont base ρ s Q Qc) : wpAny (M w) A (call (.builtin "list.pop") [o']) Qc E s := by
  obtain ⟨vs, v, e, hz, q⟩ := h
  obtain ⟨a, its, k0, rfl, ha, g1, m1⟩ := S.list mo e
  obtain ⟨ys, y, rfl, n1, n2⟩ := m1.snoc
  have hl := n1.length
  have hk : (ys ++ [y]).toArray.size - 1 = ys.length := by simp
  refine call_meets PySem.F.slot_list_pop ⟨_, g1, rfl⟩ PySem.F.entry_list_pop (PySem.F.args_list_pop_1 _) (PySem.MeetsSeq.list_pop_last a _ k0 y (by rw [hk]; simp) (by simp only [List.size_toArray, List.length_append, List.length_cons, List.length_nil]; rw [sizeLine_eq]; exact om493 hz hl)) ⟨g1, ?_⟩
  have hu := PySem.IsL.update g1 (fun x => x.eraseIdxIfInBounds ((ys ++ [y]).toArray.size - 1))
  have he : (ys ++ [y]).toArray.eraseIdxIfInBounds ((ys ++ [y]).toArray.size - 1) = ys.toArray := by
    rw [hk, kl_erase, List.append_nil]
  rw [he, if_neg (by simp)] at hu
  have z := S.put (x := .list vs) ha (fun b o hb eb => (Heap.get?_update_other _ _ (Ne.symm hb)).trans eb) hu ⟨ys, k0 + 1, rfl, n1⟩
  exact C _ _ v _ _ s.toks q z.2 z.1 n2
end
end Mine
end
section
open PySem PySem.W PySem.Calls PyProof.Rows
open PySem.Sem (wp)
set_option maxHeartbeats 2000000
namespace Mine
noncomputable def decIds : List String := ["bytearray.__contains__", "bytearray.__mod__", "bytearray.__rmod__", "_struct.pack_into.held", "bytearray.find.held"] ++ Builtin.Bytes.decodersThatHold
noncomputable def decC : Code → Bool
  | .builtin id _ => decIds.contains id
  | _ => false
noncomputable def NoB (l : List (Code × Pos)) : Prop := ∀ x ∈ l, decC x.1 = false
noncomputable def NoD (Γ : Ctx) : Prop := decC Γ.code = false ∧ NoB Γ.below
noncomputable def wpN {α : Type} (M : Model) (A : Around) (t : Sem α) (Q : α → Shared → Prop) (s : Shared) : Prop :=
  ∀ Γ p, Γ.In A → NoD Γ → wp M Γ t (fun a _ s' => Q a s') (fun _ _ _ => False) p s
noncomputable def codeN (M : Model) (A : Around) (c : Code) (Q : Flow → Shared → Prop) (s : Shared) : Prop :=
  ∀ Γ p, Γ.code = c → Γ.Below A → NoB Γ.below → wpCode M Γ (fun r s' => match r with | .ok f => Q f s' | .error _ => False) p s
section
variable {α β : Type} {M : Model} {A : Around} {s : Shared}
theorem nAny {t : Sem α} {Q : α → Shared → Prop} (h : wpAny M A t Q (fun _ _ => False) s) : wpN M A t Q s := fun Γ p hΓ _ => h Γ p hΓ
theorem nPure {a : α} {Q : α → Shared → Prop} (h : Q a s) : wpN M A (pure a) Q s := fun _ _ _ _ => h
theorem nMono {t : Sem α} {Q Q' : α → Shared → Prop} (h : wpN M A t Q s) (hQ : ∀ a s, Q a s → Q' a s) : wpN M A t Q' s :=
  fun Γ p hΓ hN => Sem.wp_mono M Γ t (fun a _ s => hQ a s) (fun e _ s => id) p s (h Γ p hΓ hN)
theorem nBind {m : Sem α} {f : α → Sem β} {Q : β → Shared → Prop} (h : wpN M A m (fun a s' => wpN M A (f a) Q s') s) : wpN M A (m >>= f) Q s := fun Γ p hΓ hN => by
  rw [Sem.wp_bind']
  exact Sem.wp_mono M Γ m (fun a p' s' h' => h' Γ p' hΓ hN) (fun _ _ _ h' => h') p s (h Γ p hΓ hN)
theorem nMap {m : Sem α} {f : α → β} {Q : β → Shared → Prop} (h : wpN M A m (fun a s' => Q (f a) s') s) : wpN M A (f <$> m) Q s := fun Γ p hΓ hN => by rw [Sem.wp_map]; exact h Γ p hΓ hN
theorem nOf_eq {t : Sem α} {a : α} {Q : α → Shared → Prop} (e : t = pure a) (h : Q a s) : wpN M A t Q s := by subst e; exact nPure h
theorem nOnRaise {m : Sem α} {k : Value → Sem Unit} {Q : α → Shared → Prop} (h : wpN M A m Q s) : wpN M A (m.onRaise k) Q s := fun Γ p hΓ hN => by
  rw [Sem.wp_onRaise]
  exact Sem.wp_mono M Γ m (fun _ _ _ h' => h') (fun e p' s' h' => h'.elim) p s (h Γ p hΓ hN)
theorem nAttempt {m : Sem α} {Q : Except Value α → Shared → Prop} (h : wpN M A m (fun a => Q (.ok a)) s) : wpN M A m.attempt Q s := fun Γ p hΓ hN => by
  rw [Sem.wp_attempt]
  exact Sem.wp_mono M Γ m (fun _ _ _ h' => h') (fun e p' s' h' => h'.elim) p s (h Γ p hΓ hN)
theorem nTry {m : Sem α} {k : Value → Sem α} {Q : α → Shared → Prop} (h : wpN M A m Q s) : wpN M A (tryCatch m k) Q s := fun Γ p hΓ hN => by
  rw [Sem.wp_tryCatch']
  exact Sem.wp_mono M Γ m (fun _ _ _ h' => h') (fun e p' s' h' => h'.elim) p s (h Γ p hΓ hN)
theorem nHolding {vs : List Value} {m : Sem α} {Q : α → Shared → Prop} (h : wpN M A m Q s) : wpN M A (holding vs m) Q s :=
  fun Γ p hΓ hN => by rw [Sem.wp_holding]; exact h Γ p hΓ hN
theorem nStand {pos : Pos} {Q : Unit → Shared → Prop} (h : Q () s) : wpN M A (standAt pos) Q s := fun _ _ _ _ => h
theorem nRule {tag : String} {Q : Unit → Shared → Prop} (h : Q () s) : wpN M A (rule tag) Q s := fun _ _ _ _ => h
theorem nPoint {Q : Unit → Shared → Prop} (h : Q () s) : wpN M A point Q s := fun _ _ _ _ => h
theorem nOperate {vs : List Value} {m : Sem Value} {Q : Value → Shared → Prop} (h : wpN M A m Q s) : wpN M A (operate vs m) Q s :=
  fun Γ p hΓ hN => by rw [Sem.wp_operate]; exact h Γ p hΓ hN
theorem nLoad {a : Addr} {o : Obj} {Q : Obj → Shared → Prop} (ho : s.heap.get? a = some o) (h : Q o s) : wpN M A (load a) Q s := nAny (wpAny_load ho h)
theorem nIteT {c : Prop} [Decidable c] {a b : Sem α} {Q : α → Shared → Prop} (hc : c) (h : wpN M A a Q s) : wpN M A (if c then a else b) Q s := by rw [if_pos hc]; exact h
theorem nIteF {c : Prop} [Decidable c] {a b : Sem α} {Q : α → Shared → Prop} (hc : ¬ c) (h : wpN M A b Q s) : wpN M A (if c then a else b) Q s := by rw [if_neg hc]; exact h
theorem NoD.enter {Γ : Ctx} (h : NoD Γ) (c : Code) (hd : Option Value) (p : Pos) : NoB (Γ.enter c hd p).below := by
  intro x hx
  have hx' : x ∈ (Γ.code, p) :: Γ.below := hx
  rcases List.mem_cons.mp hx' with rfl | hx'
  · exact h.1
  · exact h.2 x hx'
theorem nRun {c : Code} {Q : Flow → Shared → Prop} (hc : codeN M A c Q s) : wpN M A (PySem.run c none) Q s :=
  fun Γ p hΓ hN => by
    rw [Sem.wp_run]
    refine wpCode_mono (fun r s h => ?_) (hc _ p rfl (hΓ.enter c none p (by intro x; cases x)) (NoD.enter hN c none p))
    cases r <;> exact h
theorem nRunValue {c : Code} {Q : Value → Shared → Prop} (hc : codeN M A c (fun f s' => match f with | .ret v => Q v s' | _ => False) s) : wpN M A (runValue c) Q s :=
  fun Γ p hΓ hN => by
    rw [Sem.wp_runValue]
    refine wpCode_mono (fun r s h => ?_) (hc _ p rfl (hΓ.enter c none p (by intro x; cases x)) (NoD.enter hN c none p))
    cases r with
    | ok f => cases f <;> exact h
    | error e => exact h
theorem nCall {f : Value} {pos : List Value} {kw : List (Str × Value)} {Q : Value → Shared → Prop}
    (hc : codeN M A (.call f ⟨pos, kw⟩) (fun f s' => match f with | .ret v => Q v s' | _ => False) s) : wpN M A (call f pos kw) Q s := nRunValue hc
/-- what a code's tree must come to -/
noncomputable def FinN (M : Model) (A : Around) (Q : Flow → Shared → Prop) : Fin → Shared → Prop := fun fin s' => match fin with | .done f => Q f s' | .again c' => c'.quiet = true ∧ codeN M A c' Q s'
theorem codeN_tree {c : Code} {Q : Flow → Shared → Prop} (hd : decC c = false) (h : wpN M (A.under c) (M.den c) (FinN M A Q) s) : codeN M A c Q s := fun Γ p hc hΓ hN => by
  rw [wpCode_iff_wp, hc]
  refine Sem.wp_mono M Γ _ (fun fin p' s' h' => ?_) (fun _ _ _ h' => h'.elim) p s (h Γ p (hc ▸ hΓ.in) ⟨hc ▸ hd, hN⟩)
  cases fin with
  | done f => exact h'
  | again c' => exact ⟨h'.1, h'.2 (Γ.goto c') p' rfl (hΓ.goto c') hN⟩
theorem codeN_any {c : Code} {Q : Flow → Shared → Prop} (h : codeAny M A c (fun r s' => match r with | .ok f => Q f s' | .error _ => False) s) : codeN M A c Q s := fun Γ p hc hΓ _ => h Γ p hc hΓ
theorem codeN_mono {c : Code} {Q Q' : Flow → Shared → Prop} (h : codeN M A c Q s) (hQ : ∀ f s, Q f s → Q' f s) : codeN M A c Q' s := fun Γ p hc hΓ hN => wpCode_mono (fun r s h => by cases r with | ok f => exact hQ _ _ h | error e => exact h) (h Γ p hc hΓ hN)
theorem nRunOwn {c : Code} {env : Env} {Q : Flow → Shared → Prop} (hc : codeN M A c Q s) : wpN M A (runOwn c env none) Q s := by
  unfold runOwn
  exact nOnRaise (nRun hc)
theorem nStack {Q : List (Code × Pos) → Shared → Prop} (h : ∀ st, NoB st → Q st s) : wpN M A stack Q s := fun Γ p hΓ hN => by
  show Q ((Γ.code, p) :: Γ.below) s
  refine h _ fun x hx => ?_
  rcases List.mem_cons.mp hx with rfl | hx
  · exact hN.1
  · exact hN.2 x hx
theorem nExported {self : Value} {Q : Bool → Shared → Prop} (h : Q false s) : wpN M A (Builtin.Bytes.exported self) Q s := by
  refine nBind (nStack fun st hs => nPure ?_)
  have key : ∀ b : Bool, b = false → Q b s := fun b e => e ▸ h
  refine key _ (List.any_eq_false.mpr fun x hx => ?_)
  have q := hs x hx
  obtain ⟨c, p⟩ := x
  refine Bool.not_eq_true _ ▸ ?_
  cases c with
  | builtin id a =>
    obtain ⟨args, kws⟩ := a
    have q' : ∀ d ∈ decIds, id ≠ d := fun d hd e => by
      have : decIds.contains id = false := q
      rw [List.contains_eq_mem, e, decide_eq_false_iff_not] at this
      exact this hd
    have n1 := q' "bytearray.__contains__" (by decide +kernel)
    have n2 := q' "bytearray.__mod__" (by decide +kernel)
    have n3 := q' "bytearray.__rmod__" (by decide +kernel)
    have n4 := q' "_struct.pack_into.held" (by decide +kernel)
    have n5 := q' "bytearray.find.held" (by decide +kernel)
    cases args with
    | nil =>
      delta Builtin.Bytes.exported.match_1 Builtin.Bytes.exported._sparseCasesOn_1
      dsimp only
      refine Eq.trans (dif_neg n1) ?_
      refine Eq.trans (dif_neg n2) ?_
      refine Eq.trans (dif_neg n3) ?_
      refine Eq.trans (dif_neg n4) ?_
      refine Eq.trans (dif_neg n5) ?_
      rfl
    | cons v l =>
      have n6 : Builtin.Bytes.decodersThatHold.contains id = false := by
        rw [List.contains_eq_mem, decide_eq_false_iff_not]
        exact fun hm => q' id (List.mem_append_right _ hm) rfl
      delta Builtin.Bytes.exported.match_1 Builtin.Bytes.exported._sparseCasesOn_1
      dsimp only
      refine Eq.trans (dif_neg n1) ?_
      refine Eq.trans (dif_neg n2) ?_
      refine Eq.trans (dif_neg n3) ?_
      refine Eq.trans (dif_neg n4) ?_
      refine Eq.trans (dif_neg n5) ?_
      exact (congrArg (fun b => Builtin.Bytes.sameRef v self && b) n6).trans (Bool.and_false _)
  | _ => rfl
end
end Mine
end
section
open PySem PySem.W PySem.Calls PyProof.Rows PySem.SeqAt PySem.MeetsSeq PySem.AutoSeq1
set_option maxHeartbeats 2000000
namespace Mine
theorem by_bytes : typeLookup (.type "bytes") "__bytes__" = pure (some (.builtin "bytes.__bytes__")) := by rw [typeLookup_type, builtinLookup_eq_fast]; kernel_rfl
theorem int_no_bytes : typeLookup (.type "int") "__bytes__" = pure none := by rw [typeLookup_type, builtinLookup_eq_fast]; kernel_rfl
theorem int_index : typeLookup (.type "int") "__index__" = pure (some (.builtin "int.__index__")) := by rw [typeLookup_type, builtinLookup_eq_fast]; kernel_rfl
theorem ba_no_bytes : typeLookup (.type "bytearray") "__bytes__" = pure none := by rw [typeLookup_type, builtinLookup_eq_fast]; kernel_rfl
theorem ba_no_index : typeLookup (.type "bytearray") "__index__" = pure none := by rw [typeLookup_type, builtinLookup_eq_fast]; kernel_rfl
theorem ba_buffer : typeLookup (.type "bytearray") "__buffer__" = pure (some (.builtin "bytearray.__buffer__")) := by rw [typeLookup_type, builtinLookup_eq_fast]; kernel_rfl
theorem by_buffer : typeLookup (.type "bytes") "__buffer__" = pure (some (.builtin "bytes.__buffer__")) := by rw [typeLookup_type, builtinLookup_eq_fast]; kernel_rfl
theorem ba_release : typeLookup (.type "bytearray") "__release_buffer__" = pure (some (.builtin "bytearray.__release_buffer__")) := by rw [typeLookup_type, builtinLookup_eq_fast]; kernel_rfl
theorem ba_sub : isSubtype (.type "bytearray") (.type ("bytearray.__buffer__".dropRight ("__buffer__".length + 1))) = pure true := by
  rw [show "bytearray.__buffer__".dropRight ("__buffer__".length + 1) = "bytearray" from by decide +kernel]
  rw [isSubtype_type]; kernel_rfl
theorem ba_sub2 : isSubtype (.type "bytearray") (.type ("bytearray.__release_buffer__".dropRight ("__release_buffer__".length + 1))) = pure true := by
  rw [show "bytearray.__release_buffer__".dropRight ("__release_buffer__".length + 1) = "bytearray" from by decide +kernel]
  rw [isSubtype_type]; kernel_rfl
section
variable {prog : Program} {w : World} {A : Around} {E : Value → Shared → Prop} {s : Shared}
/-- the head of bytes.__new__: up to the question for __bytes__ -/
theorem bytes_new_int {n : Int} {u : Tok} {Q : Value → Shared → Prop} (h0 : 0 ≤ n) (h1 : n ≤ 1000000) (h : Q (.bytes (Array.replicate n.toNat 0) s.toks) { s with toks := s.toks + 1 }) :
    codeAny (model prog w) A (.call (.builtin "bytes.__new__") ⟨[.type "bytes", .int n u], []⟩) (wants Q E) s := by
  refine codeAny_of_tree ?_
  show wpAny _ A.in1 (do checkBuiltinCall "bytes.__new__" ⟨[.type "bytes", .int n u], []⟩; again (.builtin "bytes.__new__" ⟨[.type "bytes", .int n u], []⟩)) _ _ s
  refine wpAny_bind (wpAny_of_eq (F.bm_newCall _) (wpAny_pure ⟨plainId_quiet F.bm_plain _, codeAny_builtin F.bm_entry ?_⟩))
  rw [Around.under_plainId F.bm_plain _]
  have hT : s.TypeIs (.int n u) "int" := typeIs_int s n u
  unfold Builtin.«bytes.__new__»
  refine wpAny_bind (wpAny_of_eq (a := true) rfl ?_)
  refine bm_if_false rfl ?_
  refine wpAny_bind (wpAny_of_eq F.bm_sub ?_)
  refine bm_if_false rfl ?_
  refine wpAny_bind (wpAny_of_eq (F.bm_bind _) ?_)
  refine wpAny_bind (wpAny_of_eq (a := ()) rfl ?_)
  refine wpAny_bind (wpAny_of_eq (a := ()) rfl ?_)
  refine bm_if_false rfl ?_
  refine wpAny_bind (wpAny_specialOf hT int_no_bytes ?_)
  refine wpAny_bind (wpAny_of_eq (a := false) rfl ?_)
  refine bm_if_false rfl ?_
  refine wpAny_bind (wpAny_specialOf hT int_index ?_)
  refine bm_if_false rfl ?_
  refine wpAny_bind (wpAny_of_eq (a := Except.ok n) rfl ?_)
  dsimp only
  refine bm_if_false (c := !Builtin.Bytes.fitsIndex n) ?_ ?_
  · simp only [Builtin.Bytes.fitsIndex, Bool.not_eq_false', Bool.and_eq_true, decide_eq_true_eq]; omega
  refine wpAny_ite_false (decide_eq_false (show ¬ (n < 0) by exact om0 h0)) ?_
  refine wpAny_ite_false (decide_eq_false (show ¬ (n > 2 ^ 63 - 34) by omega)) ?_
  refine bm_if_false (c := Builtin.Bytes.tooLong n.toNat) ?_ ?_
  · simp only [Builtin.Bytes.tooLong, decide_eq_false_iff_not]; rw [sizeLine_eq]; exact om1 h1
  refine wpAny_bind (wpAny_rule ?_)
  refine wpAny_bind (wpAny_mkBytes (b := Array.replicate n.toNat 0) ?_ (by rw [Array.size_replicate, sizeLine_eq]; exact om2 h1))
  refine bm_if_true (by decide) ?_
  first
    | exact wpAny_pure h
    | exact wpAny_bind (wpAny_pure (wpAny_pure h))
theorem bytes_type {a : Value} {Q : Value → Shared → Prop} (h : codeAny (model prog w) A.in1 (.call (.builtin "bytes.__new__") ⟨[.type "bytes", a], []⟩) (wants (fun obj s₁ => s₁.TypeIs obj "bytes" ∧ Q obj s₁) E) s) :
    wpAny (model prog w) A (call (.type "bytes") [a]) Q E s :=
  callType_codes (Q₁ := fun obj s₁ => s₁.TypeIs obj "bytes" ∧ Q obj s₁) F.bm_called (F.bm_typeCall _) F.entry_object_init h fun obj s₁ h₁ =>
    ⟨h₁.1, F.args_object_init_2 obj _, object_init_meets F.bm_called.init.lookup F.bm_called.made (by decide) prog w A.in1 _ s₁ ⟨h₁.1, rfl, h₁.2⟩⟩
theorem bytes_new_bytes {b : Array UInt8} {u : Tok} {Q : Value → Shared → Prop} (h : Q (.bytes b u) s) :
    codeAny (model prog w) A (.call (.builtin "bytes.__new__") ⟨[.type "bytes", .bytes b u], []⟩) (wants Q E) s := by
  refine codeAny_of_tree ?_
  show wpAny _ A.in1 (do checkBuiltinCall "bytes.__new__" ⟨[.type "bytes", .bytes b u], []⟩; again (.builtin "bytes.__new__" ⟨[.type "bytes", .bytes b u], []⟩)) _ _ s
  refine wpAny_bind (wpAny_of_eq (F.bm_newCall _) (wpAny_pure ⟨plainId_quiet F.bm_plain _, codeAny_builtin F.bm_entry ?_⟩))
  rw [Around.under_plainId F.bm_plain _]
  have hT : s.TypeIs (.bytes b u) "bytes" := typeIs_bytes s b u
  unfold Builtin.«bytes.__new__»
  refine wpAny_bind (wpAny_of_eq (a := true) rfl ?_)
  refine bm_if_false rfl ?_
  refine wpAny_bind (wpAny_of_eq F.bm_sub ?_)
  refine bm_if_false rfl ?_
  refine wpAny_bind (wpAny_of_eq (F.bm_bind _) ?_)
  refine wpAny_bind (wpAny_of_eq (a := ()) rfl ?_)
  refine wpAny_bind (wpAny_of_eq (a := ()) rfl ?_)
  refine bm_if_false rfl ?_
  refine wpAny_bind (wpAny_specialOf hT by_bytes ?_)
  dsimp only
  refine wpAny_bind (wpAny_rule ?_)
  refine wpAny_bind (wpAny_typeOf hT ?_)
  refine bm_if_true (by decide) ?_
  refine bm_if_true (by decide) ?_
  first
    | exact wpAny_pure h
    | exact wpAny_bind (wpAny_pure (wpAny_pure h))
theorem ba_buffer_wp {l : Addr} {b : Array UInt8} {o : Obj} {id : String} {Q : Option (Array UInt8) → Shared → Prop} (ho : s.heap.get? l = some o) (e : o = { cls := .type "bytearray", data := .bytearray b }) (h : Q (some b) s) :
    wpAny (model prog w) A (Builtin.Bytes.buffer? id (.ref l) true) Q E s := by
  subst e
  have hT : s.TypeIs (.ref l) "bytearray" := ⟨_, ho, rfl⟩
  unfold Builtin.Bytes.buffer?
  refine wpAny_bind (wpAny_specialOf hT ba_buffer ?_)
  have own : ∀ (n : String) (id : String) (Q : Bool → Shared → Prop), typeLookup (.type "bytearray") (n : Str) = pure (some (.builtin id)) → (!id.endsWith ("." ++ n)) = false → isSubtype (.type "bytearray") (.type (id.dropRight (n.length + 1))) = pure true → Q true s →
      wpAny (model prog w) A (Builtin.Bytes.slotIsOwn (.ref l) n) Q E s := fun n id Q h1 h2 h3 hq => by
    unfold Builtin.Bytes.slotIsOwn
    refine wpAny_bind (wpAny_specialOf hT h1 ?_)
    dsimp only
    refine bm_if_false h2 ?_
    exact wpAny_isInstance hT h3 hq
  refine wpAny_bind (own _ _ _ ba_buffer (by decide +kernel) ba_sub (bm_if_false rfl ?_))
  refine wpAny_bind (wpAny_specialOf hT ba_buffer ?_)
  dsimp only
  refine wpAny_bind ?_
  unfold Builtin.Bytes.ownRelease
  refine wpAny_bind (own _ _ _ ba_release (by decide +kernel) ba_sub2 (wpAny_pure ?_))
  refine bm_if_false rfl ?_
  unfold Builtin.Bytes.payload Builtin.Bytes.payload?
  refine wpAny_bind (wpAny_bind (wpAny_bind (wpAny_load ho ?_)))
  refine wpAny_pure (wpAny_pure (wpAny_pure ?_))
  exact h
theorem bytes_new_barr {l : Addr} {b : Array UInt8} {Q : Value → Shared → Prop} (ho : s.heap.get? l = some { cls := .type "bytearray", data := .bytearray b }) (hz : b.size ≤ sizeLine) (h : Q (.bytes b s.toks) { s with toks := s.toks + 1 }) :
    codeAny (model prog w) A (.call (.builtin "bytes.__new__") ⟨[.type "bytes", .ref l], []⟩) (wants Q E) s := by
  refine codeAny_of_tree ?_
  show wpAny _ A.in1 (do checkBuiltinCall "bytes.__new__" ⟨[.type "bytes", .ref l], []⟩; again (.builtin "bytes.__new__" ⟨[.type "bytes", .ref l], []⟩)) _ _ s
  refine wpAny_bind (wpAny_of_eq (F.bm_newCall _) (wpAny_pure ⟨plainId_quiet F.bm_plain _, codeAny_builtin F.bm_entry ?_⟩))
  rw [Around.under_plainId F.bm_plain _]
  have hT : s.TypeIs (.ref l) "bytearray" := ⟨_, ho, rfl⟩
  unfold Builtin.«bytes.__new__»
  refine wpAny_bind (wpAny_of_eq (a := true) rfl ?_)
  refine bm_if_false rfl ?_
  refine wpAny_bind (wpAny_of_eq F.bm_sub ?_)
  refine bm_if_false rfl ?_
  refine wpAny_bind (wpAny_of_eq (F.bm_bind _) ?_)
  refine wpAny_bind (wpAny_of_eq (a := ()) rfl ?_)
  refine wpAny_bind (wpAny_of_eq (a := ()) rfl ?_)
  refine bm_if_false rfl ?_
  refine wpAny_bind (wpAny_specialOf hT ba_no_bytes ?_)
  refine wpAny_bind (wpAny_bind ?_)
  show wpAny _ _ (load l >>= _) _ _ _
  refine wpAny_bind (wpAny_load ho ?_)
  refine wpAny_pure (wpAny_pure ?_)
  refine bm_if_false rfl ?_
  refine wpAny_bind (wpAny_specialOf hT ba_no_index ?_)
  refine bm_if_true rfl ?_
  first
    | show wpAny _ _ (Builtin.Bytes.buffer? "bytes.__new__" (.ref l) true >>= _) _ _ _
    | (refine wpAny_bind ?_; show wpAny _ _ (Builtin.Bytes.buffer? "bytes.__new__" (.ref l) true >>= _) _ _ _)
  refine wpAny_bind (ba_buffer_wp ho rfl ?_)
  dsimp only
  refine wpAny_bind (wpAny_rule ?_)
  refine wpAny_bind (wpAny_mkBytes ?_ hz)
  refine bm_if_true (by decide) ?_
  first
    | exact wpAny_pure h
    | exact wpAny_bind (wpAny_pure (wpAny_pure h))
end
end Mine
end
section
open PySem PySem.W PySem.Calls PyProof.Rows
open PySem.Sem (wp)
set_option maxHeartbeats 2000000
namespace Mine
theorem ba_mro : mroOf (.type "bytearray") = pure [.type "bytearray", .type "object"] := by rw [mroOf_type]; kernel_rfl
theorem ba_lookup_new : typeLookup (.type "bytearray") "__new__" = pure (some (.builtin "bytearray.__new__")) := by rw [typeLookup_type, builtinLookup_eq_fast]; kernel_rfl
theorem ba_slot_init : Slot "bytearray" "__init__" "bytearray.__init__" :=
  .of (owner := "bytearray") (n := "__init__") (by rw [typeLookup_type, builtinLookup_eq_fast]; kernel_rfl) (by decide +kernel) (by decide +kernel) (by decide +kernel)
    (by first | exact .inl (by decide +kernel) | exact .inr (by decide +kernel)) (by rw [isSubtype_type]; kernel_rfl)
theorem ba_slot_set : Slot "bytearray" "__setitem__" "bytearray.__setitem__" :=
  .of (owner := "bytearray") (n := "__setitem__") (by rw [typeLookup_type, builtinLookup_eq_fast]; kernel_rfl) (by decide +kernel) (by decide +kernel) (by decide +kernel)
    (by first | exact .inl (by decide +kernel) | exact .inr (by decide +kernel)) (by rw [isSubtype_type]; kernel_rfl)
theorem ba_self : isSubtype (.type "bytearray") (.type "bytearray") = pure true := by rw [isSubtype_type]; kernel_rfl
theorem ba_called : TypeCalled "bytearray" "bytearray.__new__" "bytearray.__init__" :=
  ⟨by decide +kernel, by decide +kernel, ⟨_, _, ba_mro⟩, madeBy_type ba_mro ba_lookup_new (by decide +kernel), by decide +kernel, ba_self, ba_slot_init⟩
theorem ba_typeCall (a : Value) : checkTypeCall "bytearray" ⟨[a], []⟩ = pure () := by kernel_rfl
theorem ba_newCall (a : Value) : checkBuiltinCall "bytearray.__new__" ⟨[.type "bytearray", a], []⟩ = pure () := by kernel_rfl
theorem ba_plain_new : plainId "bytearray.__new__" = true := by decide +kernel
theorem ba_plain_init : plainId "bytearray.__init__" = true := by decide +kernel
theorem ba_entry_new : entryFor table "bytearray.__new__" = some Builtin.«list.__new__» := entryFor_alias (id' := "list.__new__") (by kernel_rfl) (by decide +kernel) (by kernel_rfl) (by kernel_rfl)
theorem ba_entry_init : entryFor table "bytearray.__init__" = some Builtin.«bytearray.__init__» := by first | exact entryFor_of_fast (by kernel_rfl) | exact entryFor_of_tree (by kernel_rfl)
theorem ba_entry_set : entryFor table "bytearray.__setitem__" = some Builtin.«bytearray.__setitem__» := by first | exact entryFor_of_fast (by kernel_rfl) | exact entryFor_of_tree (by kernel_rfl)
theorem ba_args_init (a b : Value) : argsOk "bytearray.__init__" ⟨[a, b], []⟩ := by unfold argsOk; kernel_rfl
theorem ba_args_set (a b c : Value) : argsOk "bytearray.__setitem__" ⟨[a, b, c], []⟩ := by unfold argsOk; kernel_rfl
theorem ba_bind (v : Value) : Builtin.Bytes.bindOptional "bytearray.__init__" "bytearray" ["source", "encoding", "errors"] [v] [] = pure [some v, none, none] := by kernel_rfl
set_option maxHeartbeats 4000000 in
theorem owner_ba_new : ("bytearray.__new__".splitOn ".__new__").headD "" = "bytearray" := by simp +decide [String.splitOn, String.splitOnAux]
section
variable {prog : Program} {w : World} {A : Around} {E : Value → Shared → Prop} {s : Shared}
theorem ba_new (a : Value) {Q₁ : Value → Shared → Prop}
    (h : Q₁ (.ref s.heap.objs.size) { s with heap := s.heap.push { cls := .type "bytearray", data := .bytearray #[] } }) :
    codeAny (model prog w) A (.call (.builtin "bytearray.__new__") ⟨[.type "bytearray", a], []⟩) (wants Q₁ E) s := by
  refine codeAny_of_tree ?_
  show wpAny _ A.in1 (do checkBuiltinCall "bytearray.__new__" ⟨[.type "bytearray", a], []⟩; again (.builtin "bytearray.__new__" ⟨[.type "bytearray", a], []⟩)) _ _ s
  refine wpAny_bind (wpAny_of_eq (ba_newCall a) (wpAny_pure ⟨plainId_quiet ba_plain_new _, codeAny_builtin_stack ba_entry_new rfl fun p st => ?_⟩))
  rw [Around.under_plainId ba_plain_new _]
  have hsub := ba_self
  have hown := owner_ba_new
  obtain ⟨hp, g, d, tk, os⟩ := s
  simp only [hown]
  wp_walk
  exact h
theorem wpWrite {l : Addr} {o : Obj} {b : Array UInt8} {f : Array UInt8 → Array UInt8} {Q : Unit → Shared → Prop} (ho : s.heap.get? l = some o) (e : o = { cls := .type "bytearray", data := .bytearray b }) (hz : (f b).size ≤ sizeLine)
    (h : Q () { s with heap := s.heap.update l (Obj.mapBytearray f) }) : wpAny (model prog w) A (Builtin.Bytes.write (.ref l) f) Q E s := by
  subst e
  show wpAny _ _ (updateBytearray l f) _ _ _
  unfold updateBytearray
  refine wpAny_bind (wpAny_load ho ?_)
  show wpAny _ _ (update l (Obj.mapBytearray f) >>= fun _ => lookBehind l) _ _ _
  refine wpAny_bind (wpAny_update ho ?_)
  refine wpAny_lookBehind (Heap.get?_update_self (Obj.mapBytearray f) ho rfl) ?_ h
  show (if (f b).size > sizeLine then some "bytearray:memory" else none) = none
  rw [if_neg (om3 hz)]
theorem own_release {l : Addr} {o : Obj} {b : Array UInt8} {Q : Bool → Shared → Prop} (ho : s.heap.get? l = some o) (e : o = { cls := .type "bytearray", data := .bytearray b }) (h : Q false s) : wpAny (model prog w) A (Builtin.Bytes.ownRelease (.ref l)) Q E s := by
  subst e
  have hT : s.TypeIs (.ref l) "bytearray" := ⟨_, ho, rfl⟩
  unfold Builtin.Bytes.ownRelease
  refine wpAny_bind ?_
  unfold Builtin.Bytes.slotIsOwn
  refine wpAny_bind (wpAny_specialOf hT ba_release ?_)
  dsimp only
  refine bm_if_false (by decide +kernel) ?_
  exact wpAny_isInstance hT ba_sub2 (wpAny_pure h)
theorem payload_wp {l : Addr} {o : Obj} {b : Array UInt8} {Q : Array UInt8 → Shared → Prop} (ho : s.heap.get? l = some o) (e : o = { cls := .type "bytearray", data := .bytearray b }) (h : Q b s) : wpAny (model prog w) A (Builtin.Bytes.payload (.ref l)) Q E s := by
  subst e
  unfold Builtin.Bytes.payload Builtin.Bytes.payload?
  refine wpAny_bind (wpAny_bind (wpAny_load ho ?_))
  exact wpAny_pure (wpAny_pure h)
theorem ba_set {l : Addr} {b : Array UInt8} {k n : Int} {t u : Tok} {Q : Unit → Shared → Prop} (ho : s.heap.get? l = some { cls := .type "bytearray", data := .bytearray b }) (h0 : 0 ≤ k) (h1 : k < b.size) (hz : b.size ≤ sizeLine) (n0 : 0 ≤ n) (n1 : n < 256)
    (h : ∀ h', Heap.SameBut l s.heap h' → h'.get? l = some { cls := .type "bytearray", data := .bytearray (b.setIfInBounds k.toNat n.toNat.toUInt8) } → Q () { s with heap := h' }) :
    wpAny (model prog w) A (setItem (.ref l) (.int k t) (.int n u)) Q E s := by
  have hT : s.TypeIs (.ref l) "bytearray" := ⟨_, ho, rfl⟩
  have hz' : b.size ≤ 16777216 := by rw [sizeLine_eq] at hz; exact hz
  unfold setItem
  try with_reducible refine wpAny_holding ?_
  first | refine wpAny_bind (wpAny_pure ?_) | skip
  refine wpAny_bind (wpAny_sequenceKey hT (by decide) ?_)
  refine wpAny_bind (wpAny_callSpecial?_slot (name := Str.ofString "__setitem__") hT ba_slot_set
    (wpAny_call_entry ba_slot_set hT ba_entry_set ?_ (ba_args_set _ _ _)))
  unfold Builtin.«bytearray.__setitem__»
  refine bm_if_false rfl ?_
  show wpAny _ _ (Builtin.Bytes.subscript? (.int k t) >>= _) _ _ s
  refine wpAny_bind ?_
  unfold Builtin.Bytes.subscript?
  refine wpAny_bind (wpAny_specialOf (T := "int") (typeIs_int s k t) int_index ?_)
  refine bm_if_false rfl ?_
  refine wpAny_bind (wpAny_of_eq (a := k) rfl ?_)
  refine bm_if_false (c := !Builtin.Bytes.fitsIndex k) ?_ ?_
  · simp only [Builtin.Bytes.fitsIndex, Bool.not_eq_false', Bool.and_eq_true, decide_eq_true_eq]; omega
  refine wpAny_pure ?_
  show wpAny _ _ (Builtin.Bytes.byteValue (.int n u) >>= _) _ _ s
  refine wpAny_bind ?_
  unfold Builtin.Bytes.byteValue
  refine wpAny_bind (wpAny_of_eq (a := n) rfl ?_)
  refine bm_if_false (c := (decide (n < 0) || decide (n ≥ 256))) ?_ ?_
  · simp only [Bool.or_eq_false_iff, decide_eq_false_iff_not]; exact om4 n0 n1
  refine wpAny_pure ?_
  refine wpAny_bind (payload_wp ho rfl ?_)
  have e : seqIndex? k b.size = some k.toNat := by
    unfold seqIndex?
    have e1 : (if k < 0 then k + (b.size : Int) else k) = k := if_neg (om0 h0)
    rw [e1]
    exact if_pos (by simp only [Bool.and_eq_true, decide_eq_true_eq]; exact om5 h0 h1)
  rw [e]
  dsimp only
  refine wpAny_bind (wpWrite ho rfl (by simpa using hz) ?_)
  have hu := Heap.get?_update_self (Obj.mapBytearray (·.setIfInBounds k.toNat n.toNat.toUInt8)) ho rfl
  have fin := h _ (Heap.SameBut.update ..) hu
  first
    | exact wpAny_bind (wpAny_pure (wpAny_pure ⟨.none, rfl, wpAny_pure fin⟩))
    | exact wpAny_pure ⟨.none, rfl, wpAny_pure fin⟩
end
end Mine
end
section
open PySem PySem.W PySem.Calls PyProof.Rows
open PySem.Sem (wp)
set_option maxHeartbeats 2000000
namespace Mine
theorem str_none (n : Int) (u : Tok) : asStr? (.int n u) = pure none := rfl
section
variable {prog : Program} {w : World} {A : Around} {s : Shared}
theorem decC_call (f : Value) (a : Args) : decC (.call f a) = false := rfl
theorem codeN_builtin {id : String} {args : Args} {b : Builtin} {Q : Flow → Shared → Prop} (hd : decIds.contains id = false) (hq : plainId id = true) (hb : entryFor table id = some b) (h : wpN (model prog w) A.in1 (b args) (FinN (model prog w) A Q) s) :
    codeN (model prog w) A (.builtin id args) Q s := by
  refine codeN_tree hd ?_
  rw [Around.under_plainId hq]
  show wpN _ _ (match entryFor table id with | some b => b args | none => unsupported ((withoutEnding? id "#data").getD id)) _ s
  rw [hb]; exact h
theorem codeN_builtin_at {id : String} {args : Args} {b : Builtin} {Q : Flow → Shared → Prop} (hd : decIds.contains id = false) (hb : entryFor table id = some b) (h : wpN (model prog w) (A.under (.builtin id args)) (b args) (FinN (model prog w) A Q) s) :
    codeN (model prog w) A (.builtin id args) Q s := by
  refine codeN_tree hd ?_
  show wpN _ _ (match entryFor table id with | some b => b args | none => unsupported ((withoutEnding? id "#data").getD id)) _ s
  rw [hb]; exact h
theorem codeN_call_builtin_at {id : String} {args : Args} {b : Builtin} {Q : Flow → Shared → Prop} (hd : decIds.contains id = false) (hq : (Code.builtin id args).quiet = true) (hb : entryFor table id = some b)
    (h : wpN (model prog w) A.in1 (checkBuiltinCall id args) (fun _ s₁ => wpN (model prog w) (A.under (.builtin id args)) (b args) (FinN (model prog w) A Q) s₁) s) : codeN (model prog w) A (.call (.builtin id) args) Q s := by
  refine codeN_tree rfl ?_
  show wpN _ A.in1 (do checkBuiltinCall id args; again (.builtin id args)) _ s
  exact nBind (nMono h fun _ s₁ h₁ => nPure ⟨hq, codeN_builtin_at hd hb h₁⟩)
theorem codeN_call_builtin {id : String} {args : Args} {b : Builtin} {Q : Flow → Shared → Prop} (hd : decIds.contains id = false) (hq : plainId id = true) (hb : entryFor table id = some b)
    (h : wpN (model prog w) A.in1 (checkBuiltinCall id args) (fun _ s₁ => wpN (model prog w) A.in1 (b args) (FinN (model prog w) A Q) s₁) s) : codeN (model prog w) A (.call (.builtin id) args) Q s := by
  refine codeN_tree rfl ?_
  show wpN _ A.in1 (do checkBuiltinCall id args; again (.builtin id args)) _ s
  exact nBind (nMono h fun _ s₁ h₁ => nPure ⟨plainId_quiet hq args, codeN_builtin hd hq hb h₁⟩)
theorem nCall_entry {T : String} {name : Str} {id : String} {b : Builtin} {self : Value} {rest : List Value} {Q : Value → Shared → Prop} (h : Slot T name id) (hT : s.TypeIs self T)
    (hb : entryFor table id = some b) (hd : decIds.contains id = false) (hc : wpN (model prog w) A.in1 (b ⟨self :: rest, []⟩) (fun fin s' => ∃ v, fin = .done (.ret v) ∧ Q v s') s)
    (ha : argsOk id ⟨self :: rest, []⟩) : wpN (model prog w) A (call (.builtin id) (self :: rest)) Q s := by
  refine nCall (codeN_call_builtin hd h.plain hb (nAny (h.check _ _ _ _ _ _ _ _ hT ha ?_)))
  refine nMono hc fun fin s' h' => ?_
  obtain ⟨v, rfl, hv⟩ := h'
  exact hv
theorem nSpecial_slot {self : Value} {T : String} {name : Str} {id : String} {args : List Value} {Q : Option Value → Shared → Prop} (hT : s.TypeIs self T) (h : Slot T name id)
    (hc : wpN (model prog w) A (call (.builtin id) (self :: args) []) (fun v => Q (some v)) s) : wpN (model prog w) A (callSpecial? self name args []) Q s := by
  simp only [callSpecial?]
  refine nBind (nAny (wpAny_specialOf hT h.lookup ?_))
  simp only [h.bind]
  exact nHolding (nBind (nPure (nBind (nMono hc fun v s' h' => nPure h'))))
theorem nType_call {T newId initId : String} {Bi : Builtin} {args : List Value} {Q : Value → Shared → Prop} {Q₁ : Value → Shared → Prop} (ft : TypeCalled T newId initId)
    (hct : checkTypeCall T ⟨args, []⟩ = pure ()) (entryI : entryFor table initId = some Bi) (hdI : decIds.contains initId = false)
    (hnew : wpN (model prog w) A.in1 (call (.builtin newId) (.type T :: args) []) Q₁ s)
    (hnext : ∀ obj s₁, Q₁ obj s₁ → s₁.TypeIs obj T ∧ argsOk initId ⟨obj :: args, []⟩ ∧ wpN (model prog w) A.in1.in1 (Bi ⟨obj :: args, []⟩) (fun fin s' => fin = .done (.ret .none) ∧ Q obj s') s₁) :
    wpN (model prog w) A (call (.type T) args) Q s := by
  obtain ⟨c, tl, hmro⟩ := ft.mro
  refine nCall (codeN_tree rfl ?_)
  show wpN _ _ (callAny (.type T) _) _ _
  refine nPure ⟨Code.quiet_builtin _ (by decide +kernel), codeN_builtin_at (by decide +kernel) F.entry_type_call ?_⟩
  rw [Around.under_plain (weight_type_call_type T args []) rfl]
  unfold Builtin.«type.__call__»
  refine nIteF (by rw [ft.notType]; exact Bool.false_ne_true) ?_
  refine nIteF (by rw [ft.canCreate]; exact Bool.false_ne_true) ?_
  refine nBind (nOf_eq hct ?_)
  refine nBind (nOf_eq hmro ?_)
  refine nIteF (by exact Bool.false_ne_true) ?_
  refine nBind (nOf_eq ft.made ?_)
  refine nBind (nPure ?_)
  refine nBind (nHolding (nMono hnew fun obj s₁ h₁ => ?_))
  obtain ⟨hT, hok, hi⟩ := hnext obj s₁ h₁
  refine nBind (nAny (wpAny_isInstance hT ft.sub ?_))
  refine nIteF (by exact Bool.false_ne_true) ?_
  refine nBind (nHolding (nSpecial_slot hT ft.init (nCall_entry ft.init hT entryI hdI (nMono hi fun fin s₂ h₂ => ?_) hok)))
  obtain ⟨rfl, hq⟩ := h₂
  refine ⟨_, rfl, ?_⟩
  refine nIteF (by exact Bool.false_ne_true) ?_
  exact nPure hq
theorem ba_init {l : Addr} {n : Int} {u : Tok} {Q : Shared → Prop} (ho : s.heap.get? l = some { cls := .type "bytearray", data := .bytearray #[] }) (h0 : 0 ≤ n) (h1 : n ≤ 1000000)
    (h : ∀ h', Heap.SameBut l s.heap h' → h'.get? l = some { cls := .type "bytearray", data := .bytearray (Array.replicate n.toNat 0) } → Q { s with heap := h' }) :
    wpN (model prog w) A (Builtin.«bytearray.__init__» ⟨[.ref l, .int n u], []⟩) (fun fin s' => fin = .done (.ret .none) ∧ Q s') s := by
  unfold Builtin.«bytearray.__init__»
  refine nBind (nAny (own_release ho rfl ?_))
  refine nIteF Bool.false_ne_true ?_
  refine nBind (nOf_eq (ba_bind _) ?_)
  refine nBind (nOf_eq (a := ()) rfl ?_)
  refine nBind (nOf_eq (a := ()) rfl ?_)
  refine nBind ?_
  show wpN _ _ (Builtin.Bytes.exported (.ref l) >>= _) _ _
  refine nBind (nExported ?_)
  show wpN _ _ (Builtin.Bytes.exportsOf (.ref l) >>= _) _ _
  refine nBind ?_
  unfold Builtin.Bytes.exportsOf
  refine nBind (nLoad ho (nPure (nPure ?_)))
  refine nIteF (by decide) ?_
  refine nBind (nAny (wpWrite ho rfl (by simp) ?_))
  have ho1 := Heap.get?_update_self (Obj.mapBytearray fun _ => #[]) ho rfl
  dsimp only
  refine nBind (nOf_eq (str_none n u) ?_)
  refine nIteF Bool.false_ne_true ?_
  refine nBind (nOf_eq (a := ()) rfl ?_)
  refine nBind (nAny (wpAny_specialOf (typeIs_int _ n u) int_index ?_))
  refine nIteT rfl ?_
  refine nBind (nOf_eq (a := Except.ok n) rfl ?_)
  dsimp only
  refine nIteF (by simp only [Builtin.Bytes.fitsIndex, Bool.not_eq_true', Bool.and_eq_false_imp]; simp; exact om6 h0 h1) ?_
  refine nIteF (om0 h0) ?_
  refine nIteF (by simp; exact om7 h1) ?_
  refine nIteF (by simp only [Builtin.Bytes.tooLong, decide_eq_true_eq]; rw [sizeLine_eq]; exact om1 h1) ?_
  refine nBind (nRule ?_)
  have hu := Heap.SameBut.update (h := s.heap) (a := l) (f := Obj.mapBytearray fun _ => #[])
  by_cases hn : n > 0
  · refine nIteT hn ?_
    refine nBind (nAny (wpWrite ho1 rfl (by rw [Array.size_replicate, sizeLine_eq]; exact om2 h1) ?_))
    have ho2 := Heap.get?_update_self (Obj.mapBytearray fun _ => Array.replicate n.toNat 0) ho1 rfl
    exact nPure ⟨rfl, h _ (hu.trans (Heap.SameBut.update ..)) ho2⟩
  · refine nIteF hn ?_
    have e : n = 0 := by exact om8 h0 hn
    subst e
    exact nPure ⟨rfl, h _ hu ho1⟩
theorem call_ba {n : Int} {u : Tok} {Q : Value → Shared → Prop} (h0 : 0 ≤ n) (h1 : n ≤ 1000000)
    (h : ∀ h', (∀ b o, s.heap.get? b = some o → h'.get? b = some o) → h'.get? s.heap.objs.size = some { cls := .type "bytearray", data := .bytearray (Array.replicate n.toNat 0) } → Q (.ref s.heap.objs.size) { s with heap := h' }) :
    wpN (model prog w) A (call (.type "bytearray") [.int n u]) Q s := by
  refine nType_call (Q₁ := fun obj s₁ => obj = .ref s.heap.objs.size ∧ s₁ = { s with heap := s.heap.push { cls := .type "bytearray", data := .bytearray #[] } }) ba_called (ba_typeCall _) ba_entry_init (by decide +kernel) ?_ ?_
  · refine nAny (wpAny_call (codeAny_mono (ba_new (E := fun _ _ => False) _ (Q₁ := fun obj s₁ => obj = .ref s.heap.objs.size ∧ s₁ = { s with heap := s.heap.push { cls := .type "bytearray", data := .bytearray #[] } }) ⟨rfl, rfl⟩) fun r s₁ h => ?_))
    cases r with
    | ok f => cases f <;> exact h
    | error e => exact h
  · rintro obj s₁ ⟨rfl, rfl⟩
    have ho := Heap.get?_push_size s.heap (o := { cls := .type "bytearray", data := .bytearray #[] }) rfl
    refine ⟨⟨_, ho, rfl⟩, ba_args_init _ _, ba_init ho h0 h1 fun h' hs hg => ?_⟩
    exact h h' (fun b o e => (hs.extBut b o (Nat.ne_of_lt (Heap.lt_size e)) (Heap.get?_push_of_some _ e))) hg
end
end Mine
end
section
open PySem PySem.W PySem.Calls PyProof.Rows
open PySem.Sem (wp)
set_option maxHeartbeats 2000000
namespace Mine
theorem bj_slot : Slot "bytes" "join" "bytes.join" :=
  .of (owner := "bytes") (n := "join") (by rw [typeLookup_type, builtinLookup_eq_fast]; kernel_rfl) (by decide +kernel) (by decide +kernel) (by decide +kernel)
    (by first | exact .inl (by decide +kernel) | exact .inr (by decide +kernel)) (by rw [isSubtype_type]; kernel_rfl)
theorem bj_type : typeOf (.builtin "bytes.join") = pure (.type "method_descriptor") := by show builtinType _ = _; rw [builtinType_eq_fast]; kernel_rfl
theorem bj_entry : entryFor table "bytes.join" = some Builtin.«bytes.join» := entryFor_of_fast (by kernel_rfl)
theorem bj_args (a b : Value) : argsOk "bytes.join" ⟨[a, b], []⟩ := by unfold argsOk; kernel_rfl
theorem by_no_release : typeLookup (.type "bytes") "__release_buffer__" = pure none := by rw [typeLookup_type, builtinLookup_eq_fast]; kernel_rfl
theorem by_sub : isSubtype (.type "bytes") (.type ("bytes.__buffer__".dropRight ("__buffer__".length + 1))) = pure true := by
  rw [show "bytes.__buffer__".dropRight ("__buffer__".length + 1) = "bytes" from by decide +kernel]
  exact F.bm_sub
section
variable {prog : Program} {w : World} {A : Around} {E : Value → Shared → Prop} {s : Shared}
theorem take_bytes {id : String} {b : Array UInt8} {t : Tok} {Q : Option (Array UInt8 × Option Value) → Shared → Prop} (h : Q (some (b, none)) s) : wpAny (model prog w) A (Builtin.Bytes.takeBufferQuiet? id (.bytes b t) 0) Q E s := by
  have hT : s.TypeIs (.bytes b t) "bytes" := typeIs_bytes s b t
  have own : ∀ (Q : Bool → Shared → Prop) (E : Value → Shared → Prop), Q true s → wpAny (model prog w) A (Builtin.Bytes.slotIsOwn (.bytes b t) "__buffer__") Q E s := fun Q E hq => by
    unfold Builtin.Bytes.slotIsOwn
    refine wpAny_bind (wpAny_specialOf hT by_buffer ?_)
    dsimp only
    refine bm_if_false (by decide +kernel) ?_
    exact wpAny_isInstance hT by_sub hq
  have own2 : ∀ (Q : Bool → Shared → Prop) (E : Value → Shared → Prop), Q false s → wpAny (model prog w) A (Builtin.Bytes.ownRelease (.bytes b t)) Q E s := fun Q E hq => by
    unfold Builtin.Bytes.ownRelease
    refine wpAny_bind ?_
    unfold Builtin.Bytes.slotIsOwn
    refine wpAny_bind (wpAny_specialOf hT by_no_release ?_)
    exact wpAny_pure (wpAny_pure hq)
  unfold Builtin.Bytes.takeBufferQuiet?
  refine wpAny_bind (wpAny_attempt ?_)
  unfold Builtin.Bytes.takeBuffer?
  refine wpAny_bind (wpAny_specialOf hT by_buffer ?_)
  refine wpAny_bind (own _ _ (bm_if_false rfl ?_))
  refine wpAny_bind (wpAny_specialOf hT by_buffer ?_)
  dsimp only
  refine wpAny_bind ?_
  unfold Builtin.Bytes.buffer?
  refine wpAny_bind (wpAny_specialOf hT by_buffer ?_)
  refine wpAny_bind (own _ _ (bm_if_false rfl ?_))
  refine wpAny_bind (wpAny_specialOf hT by_buffer ?_)
  dsimp only
  refine wpAny_bind (own2 _ _ (bm_if_false rfl ?_))
  unfold Builtin.Bytes.payload Builtin.Bytes.payload?
  refine wpAny_bind (wpAny_bind (wpAny_pure ?_))
  exact wpAny_pure (wpAny_pure (wpAny_pure (wpAny_pure h)))
theorem match_one {α : Type} {M : Model} {A : Around} {E : Value → Shared → Prop} {s : Shared} {items : Array Value} {f : Value → Sem α} {g : Sem α} {Q : α → Shared → Prop} (h1 : ∀ x, items = #[x] → wpAny M A (f x) Q E s) (h2 : wpAny M A g Q E s) :
    wpAny M A (match items with | #[x] => f x | _ => g) Q E s := by
  obtain ⟨l⟩ := items
  rcases l with _ | ⟨x, _ | ⟨y, r⟩⟩
  · exact h2
  · exact h1 _ rfl
  · exact h2
theorem fold_app : ∀ (bs : List (List UInt8)) (n : Nat) (out : Array UInt8), ((bs.map List.toArray).zipIdx n).foldl (fun out (x : Array UInt8 × Nat) => (if x.2 > 0 then out ++ (#[] : Array UInt8) else out) ++ x.1) out = out ++ bs.flatten.toArray
  | [], n, out => by simp
  | b :: bs, n, out => by
    rw [List.map_cons, List.zipIdx_cons, List.foldl_cons, fold_app bs]
    apply Array.toList_inj.mp
    split <;> simp
theorem fold_size : ∀ (bs : List (List UInt8)) (n : Nat), (bs.map List.toArray).foldl (fun x1 (x2 : Array UInt8) => x1 + x2.size) n = n + bs.flatten.length
  | [], n => by simp
  | b :: bs, n => by rw [List.map_cons, List.foldl_cons, fold_size bs]; simp; exact om9
noncomputable def bytVals (bs : List (List UInt8)) (xs : List Value) : Prop := xs.length = bs.length ∧ ∀ (i : Nat) (b : List UInt8), bs[i]? = some b → ∃ t, xs[i]? = some (.bytes b.toArray t)
theorem join_bytes {l : Addr} {xs : List Value} {k : Nat} {bs : List (List UInt8)} {t : Tok} {Q : Value → Shared → Prop} (ho : s.heap.get? l = some { cls := .type "list", data := .seq xs.toArray k }) (hx : bytVals bs xs) (hz : bs.flatten.length ≤ line)
    (h : ∀ t' tk, Q (.bytes bs.flatten.toArray t') { s with toks := tk }) : wpAny (model prog w) A (call (.builtin "bytes.join") [.bytes #[] t, .ref l]) Q E s := by
  have hT : s.TypeIs (.ref l) "list" := ⟨_, ho, rfl⟩
  refine wpAny_call_entry bj_slot (typeIs_bytes s #[] t) bj_entry ?_ (bj_args _ _)
  show wpAny _ _ (Builtin.Bytes.joinM .bytes _) _ _ _
  unfold Builtin.Bytes.joinM
  refine wpAny_bind (wpAny_of_eq (a := (.bytes #[] t, .ref l)) rfl ?_)
  refine wpAny_bind ?_
  show wpAny _ _ (Builtin.Bytes.joinItems (.ref l)) _ _ _
  unfold Builtin.Bytes.joinItems
  refine wpAny_bind (wpAny_typeOf hT (bm_if_true (by decide) (wpAny_pure ?_)))
  refine wpAny_bind (wpAny_seqItems ho rfl ?_)
  refine bm_if_true rfl ?_
  refine match_one (fun x ha => ?_) ?_
  · have ex : xs = [x] := by simpa using congrArg Array.toList ha
    subst ex
    obtain ⟨hl, hb⟩ := hx
    obtain ⟨b, rfl⟩ : ∃ b, bs = [b] := by
      match bs, hl with
      | [b], _ => exact ⟨b, rfl⟩
    obtain ⟨t', et⟩ := hb 0 b rfl
    cases et
    refine wpAny_bind (wpAny_typeOf (typeIs_bytes s _ _) (bm_if_true (by decide) ?_))
    refine wpAny_bind (wpAny_rule ?_)
    have z := h t' s.toks
    simp at z
    exact wpAny_pure ⟨_, rfl, z⟩
  · refine wpAny_bind ?_
    rw [Std.Legacy.Range.forIn_eq_forIn_range']
    simp only [Std.Legacy.Range.size, Nat.sub_zero, Nat.add_sub_cancel, Nat.div_one]
    refine wpAny_forIn_list _
      (fun rest r s' => ∃ i, rest = List.range' i (xs.length - i) ∧ i ≤ xs.length ∧ r.1 = ((bs.take i).map List.toArray).toArray ∧ (∀ p ∈ r.2, p.2 = none ∧ ∃ b t, p.1 = .bytes b t) ∧ s' = s)
      _ ?_ ?_ _ _ ⟨0, by simp, Nat.zero_le _, by simp, by simp, rfl⟩
    · rintro x rest ⟨parts, taken⟩ s' ⟨i, hr, hi, h1, h2, rfl⟩
      dsimp only at h1 h2
      have hlt : i < xs.length := by
        rcases Nat.lt_or_ge i xs.length with h | h
        · exact h
        · rw [Nat.sub_eq_zero_of_le h] at hr; simp at hr
      obtain ⟨rfl, hrest⟩ : x = i ∧ rest = List.range' (i + 1) (xs.length - (i + 1)) := by
        have e : xs.length - i = (xs.length - (i + 1)) + 1 := by exact om10 hlt
        rw [e, List.range'_succ] at hr
        injection hr with h1 h2
        exact ⟨h1, h2⟩
      have hb : x < bs.length := by rw [← hx.1]; exact hlt
      obtain ⟨t', et⟩ := hx.2 x bs[x] (List.getElem?_eq_getElem hb)
      refine wpAny_bind (wpAny_seqItems ho rfl ?_)
      dsimp only
      have e1 : (xs.toArray.getD x Value.none) = .bytes bs[x].toArray t' := by
        rw [Array.getD_eq_getD_getElem?]; simp [et]
      rw [e1]
      have e2 : (taken.any fun x => x.fst.onHeap) = false := by
        rw [List.any_eq_false]
        intro p hp
        obtain ⟨_, b, t, e⟩ := h2 p hp
        rw [e]; simp [Value.onHeap]
      refine bm_if_false (by rw [e2]; decide) ?_
      refine wpAny_bind (wpAny_holding (take_bytes ?_))
      dsimp only
      refine wpAny_bind (wpAny_seqItems ho rfl ?_)
      dsimp only
      refine bm_if_false (by simp) ?_
      refine wpAny_pure ⟨x + 1, hrest, hlt, ?_, ?_, rfl⟩
      · dsimp only
        have e : bs.take (x + 1) = bs.take x ++ [bs[x]] := by rw [List.take_add_one, List.getElem?_eq_getElem hb]; rfl
        rw [h1, e]
        simp [-List.map_take, -List.take_append_getElem]
      · intro p hp
        dsimp only at hp
        rcases List.mem_append.mp hp with hp | hp
        · exact h2 p hp
        · cases List.mem_singleton.mp hp
          exact ⟨rfl, _, _, rfl⟩
    · rintro ⟨parts, taken⟩ s' ⟨i, hr, hi, h1, h2, rfl⟩
      dsimp only at h1 h2 ⊢
      have hi' : i = xs.length := by
        rcases Nat.lt_or_ge i xs.length with h | h
        · have e : xs.length - i = (xs.length - (i + 1)) + 1 := by exact om10 h
          rw [e, List.range'_succ] at hr; cases hr
        · exact om11 hi h
      subst hi'
      rw [hx.1, List.take_length] at h1
      subst h1
      refine wpAny_bind (wpAny_of_eq (a := #[]) rfl ?_)
      have jn : Builtin.Bytes.joined #[] (List.map List.toArray bs).toArray.toList = bs.flatten.toArray := by
        unfold Builtin.Bytes.joined
        have := fold_app bs 0 #[]
        simpa using this
      refine bm_if_false ?_ ?_
      · have := fold_size bs 0
        unfold Builtin.Bytes.tooLong
        rw [decide_eq_false_iff_not, sizeLine_eq]
        unfold line at hz
        simp only [List.size_toArray, List.length_map, Array.size_empty, Nat.zero_mul, List.foldl_toArray'] at this ⊢
        simp only [List.length_nil, Nat.zero_mul]
        rw [this]
        exact om12 hz
      rw [jn]
      refine wpAny_bind (wpAny_mkBytes ?_ (by rw [List.size_toArray, sizeLine_eq]; unfold line at hz; exact om13 hz))
      refine wpAny_bind (wpAny_holding (wpAny_point ?_))
      have go : ∀ (taken : List (Value × Option Value)) (keep : List Value) (s : Shared) (Q : Unit → Shared → Prop), (∀ p ∈ taken, p.2 = none ∧ ∃ b t, p.1 = .bytes b t) → Q () s → wpAny (model prog w) A.in1 (Builtin.Bytes.joinLetGo taken keep) Q E s := by
        intro taken
        induction taken with
        | nil => intro keep s Q _ hq; exact wpAny_pure hq
        | cons p r ih =>
          intro keep s Q hp hq
          obtain ⟨a, b⟩ := p
          obtain ⟨rfl, b, t, rfl⟩ := hp _ (List.mem_cons_self ..)
          unfold Builtin.Bytes.joinLetGo
          refine wpAny_bind (wpAny_letGo ?_)
          exact ih keep s Q (fun p hp' => hp p (List.mem_cons_of_mem _ hp')) hq
      refine wpAny_bind (go _ _ _ _ h2 ?_)
      exact wpAny_pure ⟨_, rfl, h _ _⟩
end
end Mine
end
section
open PySem PySem.W PySem.Calls PyProof.Rows
open PySem.Sem (wp)
set_option maxHeartbeats 2000000
namespace Mine
structure AOk (n : Nat) (A : Around) : Prop where
  hand : A.handled = none
  deep : A.depth + 3 * n < recursionLimit
  room : A.units + 20 * n + 200 < cLine
theorem AOk.un {n : Nat} {A : Around} (h : AOk n A) : Un A := by have := h.room; unfold Un; exact om454 this
theorem AOk.lt {n : Nat} {A : Around} (h : AOk n A) : A.units < cLine := by have := h.room; exact om455 this
theorem AOk.in1 {n : Nat} {A : Around} (h : AOk (n + 1) A) : AOk n A.in1 := ⟨h.hand, by have := h.deep; simp only [Around.in1_depth]; exact om456 this, by have := h.room; simp only [Around.in1_units]; exact om457 this⟩
/-- where a call may stand: one creation deeper than its expression -/
structure AOkC (n : Nat) (A : Around) : Prop where
  hand : A.handled = none
  deep : A.depth + 3 * n < recursionLimit + 1
  room : A.units + 20 * n + 200 < cLine + 10
theorem AOk.c {n : Nat} {A : Around} (h : AOk n A) : AOkC n A := ⟨h.hand, Nat.lt_succ_of_lt h.deep, by have := h.room; exact om458 this⟩
/-- the top, as the frozen heap bears it -/
structure Gb (w : World) (base : Heap) : Prop where
  X : (K w.params).In base
  lim : base.NoLimit
  ns : ∃ mg mb, base.Ns mainGlobals mg ∧ base.Ns builtinsNs mb ∧
    (∀ id i, gints.lookup id = some i → ∃ t, mg id = some (.int i t)) ∧ (∀ id a, gfuns.lookup id = some a → mg id = some (.ref a)) ∧ (∀ id a, gclss.lookup id = some a → mg id = some (.ref a)) ∧
    (∀ b, mg (biStr b) = none ∧ mb (biStr b) = some (biVal b)) ∧ mg rangeStr = none ∧ mb rangeStr = some (.type "range")
structure Frm (base : Heap) (env : Env) (nm : NM) : Prop where
  names : env.scope.names = nm
  off : ∀ y o, base.get? y = some o → y ≠ env.locals ∧ ∀ x, env.cells.lookup x ≠ some y
  cel : ∀ y, nm.lookup y = some .cell → (env.cells.lookup y).isSome = true
structure Here (w : World) (base : Heap) (n : Nat) (A : Around) (env : Env) (nm : NM) (vs : List Str) (loc : Loc) (ρ : List Addr) (H : AH) (s : Shared) : Prop where
  gb : Gb w base
  aok : AOk n A
  frm : Frm base env nm
  lr : LR env vs loc ρ s.heap
  st : St base ρ H s.heap
noncomputable def OrcOk (w : World) (base : Heap) (n : Nat) (Γ : Orc) : Prop := ∀ A, AOkC n A → ∀ f vs H Q ρ s vs' Qc, Γ f vs H Q → St base ρ H s.heap → VMs ρ vs vs' → Cont base ρ s Q Qc → wpN (M w) A (call (.ref f) vs') Qc s
section
variable {w : World} {base : Heap} {n : Nat} {A : Around} {env : Env} {nm : NM} {vs : List Str} {loc : Loc} {ρ ρ' : List Addr} {H H' : AH} {s : Shared} {Q : PQ} {Qc : Value → Shared → Prop} {h' : Heap} {tk : Nat}
theorem Here.step (h : Here w base n A env nm vs loc ρ H s) (x : Ext ρ s.heap ρ' h') (S : St base ρ' H' h') : Here w base n A env nm vs loc ρ' H' { s with heap := h', toks := tk } :=
  ⟨h.gb, h.aok, h.frm, h.lr.ext x, S⟩
theorem Cont.step (C : Cont base ρ s Q Qc) (x : Ext ρ s.heap ρ' h') (S : St base ρ' H' h') : Cont base ρ' { s with heap := h', toks := tk } Q Qc :=
  fun ρ'' H'' v v' h'' tk' q y S' m => C ρ'' H'' v v' h'' tk' q (x.trans S y) S' m
theorem Cont.toks (C : Cont base ρ s Q Qc) (tk : Nat) : Cont base ρ { s with toks := tk } Q Qc := fun ρ' H' v v' h'' tk' q x S m => C ρ' H' v v' h'' tk' q x S m
end
/-- what every expression of the small language must do -/
noncomputable def ES (w : World) (base : Heap) (n : Nat) (Γ : Orc) (e : IE) : Prop := ∀ nm vs x env A loc ρ H s (Q : PQ) (Qc : Value → Shared → Prop), ckE nm vs e x = true → WE Γ e loc H Q → Here w base n A env nm vs loc ρ H s → Cont base ρ s Q Qc → wpN (M w) A (eval x env) Qc s
noncomputable def ContB (base : Heap) (ρ : List Addr) (s : Shared) (Q : Bool → AH → Prop) (Qc : Bool → Shared → Prop) : Prop := ∀ ρ' H' b h' tk, Q b H' → Ext ρ s.heap ρ' h' → St base ρ' H' h' → Qc b { s with heap := h', toks := tk }
noncomputable def TS (w : World) (base : Heap) (n : Nat) (Γ : Orc) (e : IE) : Prop := ∀ nm vs x env A loc ρ H s (Q : Bool → AH → Prop) (Qc : Bool → Shared → Prop), ckT nm vs e x = true → WT Γ e loc H Q → Here w base n A env nm vs loc ρ H s → ContB base ρ s Q Qc → wpN (M w) A (isTrue x env (eval x env)) Qc s
noncomputable def ContL (base : Heap) (ρ : List Addr) (s : Shared) (Q : List AV → AH → Prop) (Qc : List Value → Shared → Prop) : Prop := ∀ ρ' H' vs vs' h' tk, Q vs H' → Ext ρ s.heap ρ' h' → St base ρ' H' h' → VMs ρ' vs vs' → Qc vs' { s with heap := h', toks := tk }
noncomputable def LS (w : World) (base : Heap) (n : Nat) (Γ : Orc) (l : IEs) : Prop := ∀ nm vs xs env A loc ρ H s (Q : List AV → AH → Prop) (Qc : List Value → Shared → Prop) pos, ckEs nm vs l xs = true → WEs Γ l loc H Q → Here w base n A env nm vs loc ρ H s → ContL base ρ s Q Qc → wpN (M w) A (spliced (backTo pos (starEach xs env))) Qc s
noncomputable def AndS (w : World) (base : Heap) (n : Nat) (Γ : Orc) (l : IEs) : Prop := ∀ nm vs xs env A loc ρ H s (Q : PQ) (Qc : Value → Shared → Prop) pos, ckEs nm vs l xs = true → WAnd Γ l loc H Q → Here w base n A env nm vs loc ρ H s → Cont base ρ s Q Qc → wpN (M w) A (_root_.PySem.boolOp pos PySem.BoolOp.And (evalEach xs env)) Qc s
noncomputable def OrS (w : World) (base : Heap) (n : Nat) (Γ : Orc) (l : IEs) : Prop := ∀ nm vs xs env A loc ρ H s (Q : PQ) (Qc : Value → Shared → Prop) pos, ckEs nm vs l xs = true → WOr Γ l loc H Q → Here w base n A env nm vs loc ρ H s → Cont base ρ s Q Qc → wpN (M w) A (_root_.PySem.boolOp pos PySem.BoolOp.Or (evalEach xs env)) Qc s
noncomputable def TsS (w : World) (base : Heap) (n : Nat) (Γ : Orc) (l : IEs) : Prop := ∀ nm vs xs env A loc ρ H s (Q : Bool → AH → Prop) (Qc : Bool → Shared → Prop), ckTs nm vs l xs = true → WTs Γ l loc H Q → Here w base n A env nm vs loc ρ H s → ContB base ρ s Q Qc → wpN (M w) A (_root_.PySem.allTrue PySem.BoolOp.And xs env) Qc s
noncomputable def ToS (w : World) (base : Heap) (n : Nat) (Γ : Orc) (l : IEs) : Prop := ∀ nm vs xs env A loc ρ H s (Q : Bool → AH → Prop) (Qc : Bool → Shared → Prop), ckTs nm vs l xs = true → WTo Γ l loc H Q → Here w base n A env nm vs loc ρ H s → ContB base ρ s Q Qc → wpN (M w) A (_root_.PySem.allTrue PySem.BoolOp.Or xs env) Qc s
section
variable {w : World} {base : Heap} {n : Nat} {Γ : Orc} {A : Around} {env : Env} {nm : NM} {vs : List Str} {loc : Loc} {ρ ρ' : List Addr} {H H' : AH} {s : Shared} {Q : PQ} {Qc : Value → Shared → Prop} {h' : Heap} {tk : Nat}
theorem var_sound {i : Nat} {id : Str} {pos : Pos} {v : AV} (hx : vs[i]? = some id) (hd : id ≠ debugStr) (hv : loc[i]? = some (some v)) (q : Q v H) (h : Here w base n A env nm vs loc ρ H s) (C : Cont base ρ s Q Qc) : wpN (M w) A (eval (.Name id pos) env) Qc s := by
  have e : (id == ("__debug__" : Str)) = false := by
    rw [show ("__debug__" : Str) = debugStr from by kernel_rfl]
    exact beq_false_of_ne hd
  refine nAny (wpAny_Name (h.lr.load hx hv fun v' m => ?_) e)
  exact C.same h.st q m s.toks
theorem ns_up {h : Heap} {a : Addr} {m : Str → Option Value} (S : St base ρ H h) (g : base.Ns a m) : h.Ns a m := g.keeps S.keep
theorem isGlob_of {id : Str} (e : isGlob nm id = true) (h : Here w base n A env nm vs loc ρ H s) : env.kindOf id = some .globalImplicit ∧ (id == ("__debug__" : Str)) = false := by
  unfold isGlob at e
  simp only [Bool.and_eq_true, bne_iff_ne, ne_eq, beq_iff_eq] at e
  refine ⟨?_, ?_⟩
  · unfold Env.kindOf; rw [h.frm.names]; exact e.1
  · rw [show ("__debug__" : Str) = debugStr from by kernel_rfl]
    exact beq_false_of_ne e.2
theorem globV {id : Str} {pos : Pos} {v : Value} {M : Model} {E : Value → Shared → Prop} {mg : Str → Option Value} (e : isGlob nm id = true) (h : Here w base n A env nm vs loc ρ H s) (g : base.Ns mainGlobals mg) (hv : mg id = some v) (q : Qc v s) : wpAny M A (eval (.Name id pos) env) Qc E s := by
  obtain ⟨hk, hd⟩ := isGlob_of e h
  exact Name_function_global h.lr.kind hk (loadGlobal_global (by rw [h.lr.glob]; exact ns_up h.st g) hv q) hd
theorem globB {id : Str} {pos : Pos} {v : Value} {M : Model} {E : Value → Shared → Prop} {mg mb : Str → Option Value} (e : isGlob nm id = true) (h : Here w base n A env nm vs loc ρ H s) (g : base.Ns mainGlobals mg) (g2 : base.Ns builtinsNs mb) (hn : mg id = none) (hv : mb id = some v) (q : Qc v s) : wpAny M A (eval (.Name id pos) env) Qc E s := by
  obtain ⟨hk, hd⟩ := isGlob_of e h
  exact Name_function_global h.lr.kind hk (loadGlobal_builtin (by rw [h.lr.glob]; exact ns_up h.st g) hn (by rw [h.lr.blt]; exact ns_up h.st g2) hv q) hd
theorem nCallWith {pos : Pos} {f : Value} {first : List Value} {args : List (Bool × Sem Value)} {P : Heap → Prop} (hp : args.any (·.1) = false)
    (hk : ∀ h, P h → ∃ k, (k = Keeper.frame ∨ k = Keeper.machine) ∧ Looks (M w) h (keeperOf f) k)
    (h : wpN (M w) A (spliced args) (fun vs s₁ => P s₁.heap ∧ wpN (M w) A (call f (first ++ vs) []) Qc s₁) s) : wpN (M w) A (callWith pos f first args []) Qc s := by
  have ea : wpN (M w) A (evalArgs f true args []) (fun a s₁ => P s₁.heap ∧ wpN (M w) A (call f (first ++ a.pos) a.kw) Qc s₁) s := by
    unfold evalArgs
    match args, hp with
    | [], _ =>
      show wpN _ _ (spliced [] >>= _) _ _
      refine nBind (nMono h fun vs s₁ h₁ => nHolding ?_)
      exact nBind (nPure (nBind (nPure (nPure h₁))))
    | (false, x) :: rest, _ =>
      show wpN _ _ (spliced ((false, x) :: rest) >>= _) _ _
      refine nBind (nMono h fun vs s₁ h₁ => nHolding ?_)
      exact nBind (nPure (nBind (nPure (nPure h₁))))
    | (true, x) :: rest, hp => simp at hp
  unfold callWith
  refine nBind (nHolding (nMono ea fun a s₁ h₁ => nBind (nStand ?_)))
  obtain ⟨k, hk', L⟩ := hk _ h₁.1
  have hs : (args.any (·.1) || ([] : List (Option Str × Sem Value)).any (·.1.isNone)) = false := by rw [hp]; rfl
  simp only [hs]
  refine nBind (nAny (L.here ?_))
  have tail : ∀ {t : Sem Value}, wpN (M w) A t Qc s₁ → wpN (M w) A (t >>= fun r => holding [r] point >>= fun _ => pure r) Qc s₁ :=
    fun ht => nBind (nMono ht fun r s₂ hr => nBind (nHolding (nPoint (nPure hr))))
  have keep : ∀ {t : Sem Value} {l : List Value}, wpN (M w) A t Qc s₁ → wpN (M w) A (t.keep l) Qc s₁ := fun ht Γ p hΓ hN => by
    rw [Sem.wp_keep]; exact ht Γ p hΓ hN
  rcases hk' with rfl | rfl <;> dsimp only
  · split
    · exact tail h₁.2
    · exact tail (keep h₁.2)
  · exact tail h₁.2
theorem splice_nil {Ql : List Value → Shared → Prop} (h : Ql [] s) : wpN (M w) A (spliced []) Ql s := nPure h
theorem splice_cons {x : Sem Value} {rest : List (Bool × Sem Value)} {Ql : List Value → Shared → Prop} (h : wpN (M w) A x (fun v s₁ => wpN (M w) A (spliced rest) (fun vs s₂ => Ql (v :: vs) s₂) s₁) s) : wpN (M w) A (spliced ((false, x) :: rest)) Ql s := by
  rw [spliced]
  exact nBind (nMono h fun v s₁ h₁ => nBind (nPure (nBind (nHolding (nMono h₁ fun vs s₂ h₂ => nPure h₂)))))
theorem star_cons {x : Expr} {xs : List Expr} {pos : Pos} (hs : notStar x = true) : backTo pos (starEach (x :: xs) env) = (false, eval x env) :: backTo pos (starEach xs env) := by
  cases x <;> first | rfl | (exact absurd hs Bool.false_ne_true)
theorem ck_plain : ∀ {l : IEs} {xs : List Expr} {pos : Pos}, ckEs nm vs l xs = true → (backTo pos (starEach xs env)).any (·.1) = false
  | .nil, xs, pos, h => by cases nilB_inv (l := xs) h; rfl
  | .cons e r, xs, pos, h => by
    replace h := consB_inv (l := xs) h
    obtain ⟨x, xs, rfl, h⟩ := h
    simp only [Bool.and_eq_true] at h
    rw [star_cons h.1.1, List.any_cons, ck_plain h.2]; rfl
end
end Mine
end
section
open PySem PySem.W PySem.Calls PyProof.Rows
open PySem.Sem (wp)
set_option maxHeartbeats 2000000
namespace Mine
theorem AN.inj {a b : AN} (h : a.str = b.str) : a = b := by
  cases a <;> cases b <;> first | rfl | exact absurd h (by decide +kernel)
theorem FM.nokey {ρ : List Addr} : ∀ {fs : List (AN × AV)} {es : List DictEntry}, FM ρ fs es → es.any (·.refKey) = false
  | [], _, h => by cases h; rfl
  | _ :: _, _, ⟨e, r, t, q, k, _, x⟩ => by
    subst q
    rw [List.any_cons, x.nokey]
    simp [DictEntry.refKey, k]
theorem FM.getL {ρ : List Addr} {n : AN} : ∀ {fs : List (AN × AV)} {es : List DictEntry} {v : AV}, FM ρ fs es → getF n fs = some v → ∃ v', PySem.W.getL n.str es = some (some v') ∧ VM ρ v v'
  | [], _, _, _, h => by cases h
  | (k, w) :: fs, _, v, ⟨e, r, t, q, hk, hv, x⟩, h => by
    subst q
    unfold getF at h
    split at h
    · rename_i q; subst q; cases h
      refine ⟨e.val, ?_, hv⟩
      unfold PySem.W.getL
      rw [List.find?_cons_of_pos (by rw [hk]; simp [Value.isStr])]
    · rename_i q
      obtain ⟨v', h1, h2⟩ := x.getL h
      refine ⟨v', ?_, h2⟩
      unfold PySem.W.getL at h1 ⊢
      rw [List.find?_cons_of_neg (by rw [hk]; simp only [Value.isStr]; intro z; exact q (AN.inj (by simpa using z)))]
      revert h1
      cases r.find? (fun x => x.key.isStr n.str) with
      | some e' => exact id
      | none => intro h1; rw [x.nokey] at h1; cases h1
theorem FM.putL {ρ : List Addr} {n : AN} {v : AV} {v' : Value} {hs : Int} {t : Tok} (hv : VM ρ v v') : ∀ {fs : List (AN × AV)} {es : List DictEntry}, FM ρ fs es → FM ρ (putF n v fs) (PySem.W.putL n.str hs (.str n.str t) v' es)
  | [], _, h => by cases h; exact ⟨_, _, t, rfl, rfl, hv, rfl⟩
  | (k, w) :: fs, _, ⟨e, r, t', q, hk, hw, x⟩ => by
    subst q
    unfold putF PySem.W.putL
    by_cases hq : k = n
    · subst hq
      rw [if_pos rfl, if_pos (by rw [hk]; simp [Value.isStr])]
      exact ⟨_, _, t', rfl, hk, hv, x⟩
    · rw [if_neg hq, if_neg (by rw [hk]; simp only [Value.isStr]; intro z; exact hq (AN.inj (by simpa using z)))]
      exact ⟨e, _, t', rfl, hk, hw, x.putL hv⟩
theorem putF_len (n : AN) (v : AV) : ∀ fs : List (AN × AV), (putF n v fs).length ≤ fs.length + 1
  | [] => by simp [putF]
  | (a, b) :: r => by
    have := putF_len n v r
    unfold putF; split <;> simp <;> exact om465 this
theorem FM.length {ρ : List Addr} : ∀ {fs : List (AN × AV)} {es : List DictEntry}, FM ρ fs es → es.length = fs.length
  | [], _, h => by cases h; rfl
  | _ :: _, _, ⟨e, r, t, q, k, _, x⟩ => by subst q; simp [x.length]
noncomputable def clsOk (P : Params) (C : Addr) : Bool := hasDictIn (K P) C && plainOver (K P) C && plainGet (K P) C ⟨⟨[]⟩⟩ && findIn (K P) (.ref C) "__setattr__" == some (some (.builtin "object.__setattr__")) &&
  [AN.page_size, .pages, .spare, .kind, .raws, .right].all (fun n => findIn (K P) (.ref C) n.str == some none)
theorem clsOk_all (P : Params) : clsOk P 199 = true ∧ clsOk P 312 = true := ⟨by kernel_rfl, by kernel_rfl⟩
theorem clsOk_at {P : Params} {C : Addr} (h : C = 199 ∨ C = 312) : clsOk P C = true := by rcases h with rfl | rfl; exact (clsOk_all P).1; exact (clsOk_all P).2
theorem AN.mem (n : AN) : n ∈ [AN.page_size, .pages, .spare, .kind, .raws, .right] := by cases n <;> simp
theorem vm_handed {ρ : List Addr} {v : AV} {v' : Value} (h : VM ρ v v') : handedIn v' = true := by
  cases v with
  | none => cases h; rfl
  | bool b => cases h; rfl
  | int i => obtain ⟨t, rfl⟩ := h; rfl
  | byt b => obtain ⟨t, rfl⟩ := h; rfl
  | ref r => obtain ⟨a, rfl, _⟩ := h; rfl
section
variable {w : World} {base : Heap} {n : Nat} {Γ : Orc} {A : Around} {E : Value → Shared → Prop} {env : Env} {nm : NM} {vs : List Str} {loc : Loc} {ρ ρ' : List Addr} {H H' : AH} {s : Shared} {Q : PQ} {Qc : Value → Shared → Prop} {h' : Heap} {tk : Nat}
theorem St.K (S : St base ρ H s.heap) (g : Gb w base) : (Mine.K w.params).In s.heap := g.X.keeps S.keep
/-- an inst and its dict -/
theorem St.inst (S : St base ρ H s.heap) {r d : Nat} {C : Addr} {fs : List (AN × AV)} {o' : Value} (mo : VM ρ (.ref r) o') (e1 : H[r]? = some (.inst C d)) (e2 : H[d]? = some (.dict fs)) :
    ∃ a ox dx es k, o' = .ref a ∧ ρ[r]? = some a ∧ ρ[d]? = some dx ∧ s.heap.get? dx = some (dictOf es k) ∧ FM ρ fs es ∧ InstAt s.heap a ox C (some (dictOf es k)) ∧ ox.dict = some dx := by
  obtain ⟨a, o, rfl, ha, g1, dx, sl, rfl, hd⟩ := S.look mo e1
  obtain ⟨dx', o2, e3, g2, es, k, rfl, m2⟩ := S.obj d _ e2
  rw [hd] at e3; cases e3
  exact ⟨a, _, dx, es, k, rfl, ha, hd, g2, m2, ⟨g1, rfl, rfl, g2⟩, rfl⟩
theorem attrA_sound {o : AV} {o' : Value} {nme : AN} {expr : Bool} (g : Gb w base) (h : attrA o nme H Q) (S : St base ρ H s.heap) (mo : VM ρ o o') (C : Cont base ρ s Q Qc) : wpAny (M w) A (getAttr o' nme.str expr) Qc E s := by
  · replace h := onRef_inv h
    obtain ⟨r, rfl, h⟩ := h
    obtain ⟨Cl, d, fs, v, e1, e2, e3, hC, q⟩ := h
    obtain ⟨a, ox, dx, es, k, rfl, ha, hd, g2, m2, I, hdx⟩ := S.inst mo e1 e2
    obtain ⟨v', hl, mv⟩ := m2.getL e3
    have ok := clsOk_at (P := w.params) hC
    unfold clsOk at ok
    simp only [Bool.and_eq_true, List.all_eq_true, beq_iff_eq] at ok
    obtain ⟨⟨⟨⟨h1, h2⟩, h3⟩, h4⟩, h5⟩ := ok
    unfold plainGet at h3
    simp only [Bool.and_eq_true, beq_iff_eq] at h3
    exact get_value (S.K g) I h3.1 (findObj_own h1 (h5 nme nme.mem) rfl (by rw [lookIn_dict]; exact hl)) (vm_handed mv) (C.same S q mv _)
theorem setAttrA_sound {o v : AV} {o' v' : Value} {nme : AN} {P : AH → Prop} {Qu : Unit → Shared → Prop} (g : Gb w base) (h : setAttrA o nme v H P) (S : St base ρ H s.heap) (mo : VM ρ o o') (mv : VM ρ v v')
    (C : ∀ H' h' tk, P H' → Ext ρ s.heap ρ h' → St base ρ H' h' → Qu () { s with heap := h', toks := tk }) : wpAny (M w) A (setAttr o' nme.str v') Qu E s := by
  · replace h := onRef_inv h
    obtain ⟨r, rfl, h⟩ := h
    obtain ⟨Cl, d, fs, e1, e2, hC, hz, q⟩ := h
    obtain ⟨x, ox, dx, es, k, rfl, ha, hdx, g2, m2, I, hd⟩ := S.inst mo e1 e2
    have ok := clsOk_at (P := w.params) hC
    unfold clsOk at ok
    simp only [Bool.and_eq_true, List.all_eq_true, beq_iff_eq] at ok
    obtain ⟨⟨⟨⟨h1, h2⟩, h3⟩, h4⟩, h5⟩ := ok
    have X := S.K g
    refine set_plain X I h4 (osa_open (s := { s with toks := s.toks + 1 }) (r := none) X I h2 (by unfold takerIn; rw [h5 nme nme.mem]; rfl) fun b => ?_)
    obtain ⟨cd, hc, hd'⟩ := any_some h1
    have ml := m2.length
    obtain ⟨hx, hcl, hn, -⟩ := I
    obtain ⟨oc, odi, oda, osl⟩ := ox
    dsimp only at hcl hd
    subst hcl hd
    refine wpAny_bind (wpAny_pure (wpAny_bind (wpAny_bind (wpAny_loadPart hx (wpAny_bind ((looks_clsIn X hc).at ?_))))))
    rw [hd']
    refine wpAny_pure (a := some dx) (wpAny_bind (wpAny_pure (wpAny_bind ?_)))
    unfold nsSet
    refine wpAny_bind (wpAny_bind (wpAny_askSetting (wpAny_pure (wpAny_bind (wpAny_mkText (wpAny_bind (wpAny_loadPart g2 ?_)))))))
    have c : (!es.toArray.any (·.key.isStr nme.str) && es.toArray.any (·.refKey)) = false := by
      have q := m2.nokey
      simp only [List.any_toArray, q, Bool.and_false]
    unfold dictOf
    dsimp only
    rw [aRefKeyMayBeTheName_at, c]
    refine wpAny_updatePart g2 ?_
    have e' : Obj.putName nme.str (PyData.keyHash w.params nme.str) (.str nme.str (s.toks + 1)) v' (dictOf es k) = dictOf (putL nme.str (PyData.keyHash w.params nme.str) (.str nme.str (s.toks + 1)) v' es) (putN nme.str es k) := putName_dict ..
    have D' := Heap.get?_update_self (Obj.putName nme.str (PyData.keyHash w.params nme.str) (.str nme.str (s.toks + 1)) v') g2 (by rw [e']; rfl)
    have m3 : FM ρ (putF nme v fs) _ := m2.putL (n := nme) (hs := PyData.keyHash w.params nme.str) (t := s.toks + 1) mv
    refine wpAny_bind (wpAny_lookBehind D' (by rw [e']; exact pastItsLine_dict (by
      have := m3.length
      have hp := putF_len nme v fs
      rw [List.size_toArray, sizeLine_eq, this]; exact om466 hz hp)) ?_)
    rw [e'] at D'
    have z := S.put (x := .dict (putF nme v fs)) hdx (fun b o hb eb => (Heap.get?_update_other _ _ (Ne.symm hb)).trans eb) D' ⟨_, _, rfl, m3⟩
    exact wpAny_pure (C _ _ _ q z.2 z.1)
end
end Mine
end
section
open PySem PySem.W PySem.Calls PyProof.Rows
open PySem.Sem (wp)
set_option maxHeartbeats 2000000
namespace Mine
section
variable {w : World} {base : Heap} {n : Nat} {A : Around} {ρ ρ' : List Addr} {H H' : AH} {Q : PQ} {Qc : Value → Shared → Prop} {h : Heap} {g : Array GenState} {d : Drawn} {t : Nat} {os : OsState}
theorem nNew {C fI : Addr} {rest : List Value} (Y : Makes (M w) h C) (hi : Looks (M w) h (typeLookup (.ref C) "__init__") (some (.ref fI)))
    (hb : ∀ self, Looks (M w) h (bindSpecial (.ref fI) self) (.ref fI, [self]))
    (hq : wpN (M w) (A.under (.builtin "type.__call__" ⟨.ref C :: rest, []⟩)) (call (.ref fI) (.ref (h.objs.size + 1) :: rest) []) (fun r s' => r = .none ∧ Qc (.ref (h.objs.size + 1)) s') ⟨(h.push emptyDict).push (instObj C h.objs.size), g, d, t, os⟩) :
    wpN (M w) A (call (.ref C) rest []) Qc ⟨h, g, d, t, os⟩ := by
  have Y' := Y
  obtain ⟨⟨oc, od, cd, sl, hC, e1, e2, e4⟩, made, base, self, top, call, typ⟩ := Y
  refine nCall (codeN_tree rfl ?_)
  show wpN _ _ (callAny (.ref C) _) _ _
  refine nBind (nLoad hC ?_)
  show wpN _ _ (callAny.viaDunder (.ref C) _) _ _
  unfold callAny.viaDunder
  refine nBind (nAny (call.at ?_))
  dsimp only
  rw [tc_bind]
  refine nBind (nPure (nBind (nPure ?_)))
  refine nPure (a := Fin.again (.call (.builtin "type.__call__") ⟨.ref C :: rest, []⟩)) (And.intro rfl ?_)
  refine codeN_call_builtin_at (by decide +kernel) (Code.quiet_builtin _ (by decide +kernel)) entry_typeCall (nAny (check_slot tc_kind tc_split typ (tc_args _ _ _) ?_))
  unfold Builtin.«type.__call__»
  have hm : Looks (M w) h (mroOf (.ref C)) cd.mro := ((Looks.ld (part := none) hC).andThen .now).andThen .now
  refine nIteF Bool.false_ne_true ?_
  refine nBind (nAny (hm.at ?_))
  refine nIteF (by rw [e4]; exact Bool.false_ne_true) ?_
  refine nBind (nAny (made.at ?_))
  refine nBind (nPure ?_)
  refine nBind (nHolding (nAny (wpAny_call (new_K (rest := rest) (kw := []) Y' hi (.inl rfl) ?_))))
  have k : ∀ b o, h.get? b = some o → ((h.push emptyDict).push (instObj C h.objs.size)).get? b = some o := fun b o e => Heap.get?_push_of_some _ (Heap.get?_push_of_some _ e)
  have hx : ((h.push emptyDict).push (instObj C h.objs.size)).get? (h.objs.size + 1) = some (instObj C h.objs.size) := by heap_get
  have t1 : Looks (M w) ((h.push emptyDict).push (instObj C h.objs.size)) (typeOf (.ref (h.objs.size + 1))) (.ref C) := (Looks.ld hx).andThen .now
  have s1 := self.keeps k
  have i1 := hi.keeps k
  have b1 := (hb (.ref (h.objs.size + 1))).keeps k
  unfold isInstance
  refine nBind (nBind (nAny (t1.at ?_)))
  refine nAny (s1.at ?_)
  refine nIteF Bool.false_ne_true ?_
  refine nBind (nHolding ?_)
  unfold callSpecial? specialOf
  refine nBind (nBind (nAny (t1.at ?_)))
  refine nAny (i1.at ?_)
  dsimp only
  refine nHolding (nBind (nAny (b1.at ?_)))
  refine nBind (nMono hq fun r s' z => ?_)
  obtain ⟨rfl, z⟩ := z
  refine nPure ?_
  refine nIteF Bool.false_ne_true ?_
  exact nPure z
end
end Mine
end
section
open PySem PySem.W PySem.Calls PyProof.Rows
open PySem.Sem (wp)
set_option maxHeartbeats 2000000
namespace Mine
section
variable {w : World} {base : Heap} {n : Nat} {A : Around} {E : Value → Shared → Prop} {ρ ρ' : List Addr} {H H' : AH} {s : Shared} {Q : PQ} {Qc : Value → Shared → Prop}
theorem list_set_neg {prog : Program} {l : Addr} {its : List Value} {c : Nat} {k : Int} {t : Tok} {v : Value} {Q : Unit → Shared → Prop} (ho : s.heap.get? l = some ({ cls := .type "list", data := .seq its.toArray c } : Obj))
    (h0 : k < 0) (h1 : -(its.length : Int) ≤ k) (hfit : -(2 ^ 63) ≤ k)
    (hQ : ∀ h', Heap.SameBut l s.heap h' → h'.get? l = some ({ cls := .type "list", data := .seq (its.set (k + its.length).toNat v).toArray c } : Obj) → Q () { s with heap := h' }) : wpAny (model prog w) A (setItem (.ref l) (.int k t) v) Q E s := by
  have hl : s.heap.IsList l its.toArray := ⟨_, ho, rfl, c, rfl⟩
  unfold setItem
  try with_reducible refine wpAny_holding ?_
  first | refine wpAny_bind (wpAny_pure ?_) | skip
  refine wpAny_bind (wpAny_sequenceKey hl.typeIs (by decide) ?_)
  refine wpAny_bind (wpAny_callSpecial?_slot (name := Str.ofString "__setitem__") hl.typeIs slot_list_setitem
    (wpAny_call_entry slot_list_setitem hl.typeIs entry_list_setitem ?_ (args_list_setitem _ _ _)))
  show wpAny _ _ (Builtin.List.listSubscript? (.int k t) >>= _) _ _ s
  refine wpAny_bind (wpAny_listSubscript_int (fitsIndex_neg h0 hfit) ?_)
  clear hfit
  have hidx := seqIndex_neg (n := its.toArray.size) h0 (by simpa using h1)
  have hj : (k + its.length).toNat < its.length := by exact om467 h0 h1
  have hx : its.toArray[(k + (its.toArray.size : Int)).toNat]? = some its[(k + its.length).toNat] := by simp [hj]
  have hs : ((k + (its.toArray.size : Int)).toNat) = (k + its.length).toNat := by simp
  have hset : ∀ j, Obj.mapSeq (·.setIfInBounds j v) ({ cls := .type "list", data := .seq its.toArray c } : Obj) = { cls := .type "list", data := .seq (its.set j v).toArray c } := fun j => by
    simp [Obj.mapSeq]
  have hu := Heap.get?_update_self (Obj.mapSeq (·.setIfInBounds (k + its.length).toNat v)) ho rfl
  rw [hset] at hu
  have fin := hQ _ (Heap.SameBut.update ..) hu
  clear hu hset hQ
  obtain ⟨j, rfl⟩ : ∃ j : Nat, k = Int.negSucc j := by
    cases k with
    | ofNat n => exact absurd h0 (Int.not_lt.mpr (Int.ofNat_nonneg n))
    | negSucc n => exact ⟨n, rfl⟩
  show wpAny _ _ ((Builtin.List.listItems (.ref l) >>= fun xs => pure ((seqIndex? (Int.negSucc j) xs.size).bind fun i => xs[i]?.map (i, ·))) >>= _) _ _ s
  refine wpAny_bind (wpAny_bind ?_)
  show wpAny _ _ (seqItems? (.ref l) >>= _) _ _ s
  refine wpAny_bind (wpAny_seqItems ho rfl (wpAny_pure (wpAny_pure ?_)))
  rw [hidx]
  simp only [Option.bind_some, hx, Option.map_some]
  rw [hs]
  show wpAny _ _ (setSeqItemAt l (Int.negSucc j + its.length).toNat v >>= _) _ _ s
  refine wpAny_bind (wpAny_setSeqItemAt ho rfl ?_)
  first
    | exact wpAny_bind (wpAny_pure (wpAny_pure ⟨.none, rfl, wpAny_pure fin⟩))
    | exact wpAny_pure ⟨.none, rfl, wpAny_pure fin⟩
theorem list_set_pos {prog : Program} {l : Addr} {its : List Value} {c : Nat} {k : Int} {t : Tok} {v : Value} {Q : Unit → Shared → Prop} (ho : s.heap.get? l = some ({ cls := .type "list", data := .seq its.toArray c } : Obj))
    (h0 : 0 ≤ k) (h1 : k < its.length) (hfit : k < 2 ^ 63)
    (hQ : ∀ h', Heap.SameBut l s.heap h' → h'.get? l = some ({ cls := .type "list", data := .seq (its.set k.toNat v).toArray c } : Obj) → Q () { s with heap := h' }) : wpAny (model prog w) A (setItem (.ref l) (.int k t) v) Q E s := by
  have hl : s.heap.IsList l its.toArray := ⟨_, ho, rfl, c, rfl⟩
  unfold setItem
  try with_reducible refine wpAny_holding ?_
  first | refine wpAny_bind (wpAny_pure ?_) | skip
  refine wpAny_bind (wpAny_sequenceKey hl.typeIs (by decide) ?_)
  refine wpAny_bind (wpAny_callSpecial?_slot (name := Str.ofString "__setitem__") hl.typeIs slot_list_setitem
    (wpAny_call_entry slot_list_setitem hl.typeIs entry_list_setitem ?_ (args_list_setitem _ _ _)))
  show wpAny _ _ (Builtin.List.listSubscript? (.int k t) >>= _) _ _ s
  refine wpAny_bind (wpAny_listSubscript_int (fitsIndex_of h0 hfit) ?_)
  clear hfit
  obtain ⟨j, rfl⟩ := Int.eq_ofNat_of_zero_le h0
  have hj : j < its.length := by exact om67 h1
  have hx : its.toArray[j]? = some its[j] := by simp [hj]
  have hset : ∀ j, Obj.mapSeq (·.setIfInBounds j v) ({ cls := .type "list", data := .seq its.toArray c } : Obj) = { cls := .type "list", data := .seq (its.set j v).toArray c } := fun j => by
    simp [Obj.mapSeq]
  have hu := Heap.get?_update_self (Obj.mapSeq (·.setIfInBounds j v)) ho rfl
  rw [hset] at hu
  have fin := hQ _ (Heap.SameBut.update ..) hu
  show wpAny _ _ ((seqItemAt l j >>= fun r => pure (r.map (j, ·))) >>= _) _ _ s
  refine wpAny_bind (wpAny_bind (wpAny_seqItemAt ho rfl (wpAny_pure ?_)))
  rw [hx]
  show wpAny _ _ (setSeqItemAt l j v >>= _) _ _ s
  refine wpAny_bind (wpAny_setSeqItemAt ho rfl ?_)
  first
    | exact wpAny_bind (wpAny_pure (wpAny_pure ⟨.none, rfl, wpAny_pure fin⟩))
    | exact wpAny_pure ⟨.none, rfl, wpAny_pure fin⟩
theorem setItemA_sound {o i v : AV} {o' i' v' : Value} {P : AH → Prop} {Qu : Unit → Shared → Prop} (h : setItemA o i v H P) (S : St base ρ H s.heap) (mo : VM ρ o o') (mi : VM ρ i i') (mv : VM ρ v v')
    (C : ∀ H' h' tk, P H' → Ext ρ s.heap ρ h' → St base ρ H' h' → Qu () { s with heap := h', toks := tk }) : wpAny (M w) A (setItem o' i' v') Qu E s := by
  · replace h := onRef_inv h
    obtain ⟨r, rfl, h⟩ := h
    replace h := onInt_inv h
    obtain ⟨k, rfl, h⟩ := h
    obtain ⟨u, rfl⟩ := mi
    rcases h with ⟨vs, e, hz, hin, q⟩ | ⟨b, m, e, rfl, n0, n1, k0, k1, hz, q⟩
    · obtain ⟨a, its, c, rfl, ha, g1, m1⟩ := S.list mo e
      have hl := m1.length
      unfold inside at hin
      unfold place at q
      by_cases hk : k < 0
      · rw [if_pos hk] at hin q
        refine list_set_neg g1 hk (om468 hin hl) (by omega) fun h' hs hg => ?_
        rw [hl] at hg
        have z := S.put (x := .list (vs.set (k + vs.length).toNat v)) ha (fun b o hb eb => (hs.2 b hb).trans eb) hg ⟨_, _, rfl, m1.set mv _⟩
        exact C _ _ s.toks q z.2 z.1
      · rw [if_neg hk] at hin q
        refine list_set_pos g1 (om469 hin) (om470 hin hl) (by omega) fun h' hs hg => ?_
        have z := S.put (x := .list (vs.set k.toNat v)) ha (fun b o hb eb => (hs.2 b hb).trans eb) hg ⟨_, _, rfl, m1.set mv _⟩
        exact C _ _ s.toks q z.2 z.1
    · obtain ⟨a, o, rfl, ha, g1, m1⟩ := S.look mo e
      have m1' : o = { cls := .type "bytearray", data := .bytearray b.toArray } := m1
      subst m1'
      obtain ⟨u', rfl⟩ := mv
      refine ba_set g1 k0 (by simpa using k1) (by rw [List.size_toArray, sizeLine_eq]; exact om471 hz) n0 n1 fun h' hs hg => ?_
      have z := S.put (x := .barr (b.set k.toNat m.toNat.toUInt8)) ha (fun b o hb eb => (hs.2 b hb).trans eb) hg (by
        show _ = _
        rw [show b.toArray.setIfInBounds k.toNat m.toNat.toUInt8 = (b.set k.toNat m.toNat.toUInt8).toArray from by simp])
      exact C _ _ s.toks q z.2 z.1
noncomputable def miId : MI → String
  | .append => "list.append" | .pop => "list.pop" | .reverse => "list.reverse" | .join => "bytes.join"
theorem miStr_eq (m : MI) : miStr m = match m with | .append => PySem.Str.ofString "append" | .pop => PySem.Str.ofString "pop" | .reverse => PySem.Str.ofString "reverse" | .join => PySem.Str.ofString "join" := by cases m <;> kernel_rfl
theorem byts_vals {ρ : List Addr} : ∀ {vs : List AV} {bs : List (List UInt8)} {xs : List Value}, byts? vs = some bs → VMs ρ vs xs → bytVals bs xs
  | [], bs, _, h, m => by cases h; cases m; exact ⟨rfl, fun i b e => by simp at e⟩
  | .byt i :: r, bs, _, h, m => by
    obtain ⟨v, q, rfl, ⟨t, rfl⟩, mr⟩ := m
    obtain ⟨l, e, rfl⟩ := Option.map_eq_some_iff.mp h
    · obtain ⟨h1, h2⟩ := byts_vals e mr
      refine ⟨by simp [h1], fun j b e => ?_⟩
      cases j with
      | zero => simp at e; subst e; exact ⟨t, rfl⟩
      | succ j => simpa using h2 j b (by simpa using e)
  | .none :: r, bs, _, h, m => nomatch h
  | .bool _ :: r, bs, _, h, m => nomatch h
  | .int _ :: r, bs, _, h, m => nomatch h
  | .ref _ :: r, bs, _, h, m => nomatch h
/-- the receiver of a builtin method at a call -/
theorem meth_recv {m : MI} {o : AV} {o' : Value} {as : List AV} {H₁ : AH} {h₁ : Heap} {s₁ : Shared} {E : Value × List Value → Shared → Prop} {Qm : Value × List Value → Shared → Prop} {pl : Sem Bool} {M' : Model} {E' : Value → Shared → Prop} (S : St base ρ H₁ s₁.heap) (mo : VM ρ o o') (hr : recvA m o H₁) (q : Qm (.builtin (miId m), [o']) s₁) : wpAny M' A (getMethod o' (miStr m) pl) Qm E' s₁ := by
  rw [miStr_eq]
  cases m <;> cases o <;> try exact False.elim hr
  · obtain ⟨vs, e⟩ := hr
    obtain ⟨a, its, k0, rfl, _, g1, m1⟩ := S.list mo e
    exact getMethod_builtin ⟨_, g1, rfl⟩ F.plainAttrs_list slot_list_append PySem.F.type_list_append (fun a h => by cases h; exact ⟨_, g1, rfl⟩) q
  · obtain ⟨vs, e⟩ := hr
    obtain ⟨a, its, k0, rfl, _, g1, m1⟩ := S.list mo e
    exact getMethod_builtin ⟨_, g1, rfl⟩ F.plainAttrs_list PySem.F.slot_list_pop PySem.F.type_list_pop (fun a h => by cases h; exact ⟨_, g1, rfl⟩) q
  · obtain ⟨vs, e⟩ := hr
    obtain ⟨a, its, k0, rfl, _, g1, m1⟩ := S.list mo e
    exact getMethod_builtin ⟨_, g1, rfl⟩ F.plainAttrs_list PySem.F.slot_list_reverse PySem.F.type_list_reverse (fun a h => by cases h; exact ⟨_, g1, rfl⟩) q
  · obtain ⟨t, rfl⟩ := mo
    exact getMethod_builtin (typeIs_bytes _ _ _) FB.plainAttrs_bytes bj_slot bj_type (fun a h => nomatch h) q
end
end Mine
end
section
open PySem PySem.W PySem.Calls PyProof.Rows
open PySem.Sem (wp)
set_option maxHeartbeats 2000000
namespace Mine
section
variable {w : World} {base : Heap} {n : Nat} {Γ : Orc} {A : Around} {env : Env} {nm : NM} {vs : List Str} {loc : Loc} {ρ ρ' : List Addr} {H H' : AH} {s : Shared} {Q : PQ} {Qc : Value → Shared → Prop}
theorem biN_sound {b : BI} {as : List AV} {as' : List Value} (hh : A.handled = none) (h : biA b as H Q) (S : St base ρ H s.heap) (ms : VMs ρ as as') (C : Cont base ρ s Q Qc) : wpN (M w) A (call (biVal b) as' []) Qc s := by
  cases b with
  | len =>
    replace h := on1_inv h
    obtain ⟨a, rfl, h⟩ := h
    obtain ⟨a', r', rfl, ma, mr⟩ := ms
    cases mr
    exact nAny (len_sound h S ma C)
  | max =>
    replace h := on2_inv h
    obtain ⟨a, b, rfl, h⟩ := h
    replace h := onInt2_inv h
    obtain ⟨x, y, rfl, rfl, h⟩ := h
    obtain ⟨a', r', rfl, ma, b', r'', rfl, mb, mr⟩ := ms
    cases mr
    exact nAny (max_sound hh h S ma mb C)
  | int =>
    replace h := on1_inv h
    obtain ⟨a, rfl, h⟩ := h
    obtain ⟨a', r', rfl, ma, mr⟩ := ms
    cases mr
    exact nAny (int_sound h S ma C)
  | sum =>
    replace h := on1_inv h
    obtain ⟨a, rfl, h⟩ := h
    obtain ⟨a', r', rfl, ma, mr⟩ := ms
    cases mr
    replace h := onRef_inv h
    obtain ⟨r, rfl, h⟩ := h
    exact nAny (sum_sound hh h S ma C)
  | list =>
    replace h := on1_inv h
    obtain ⟨a, rfl, h⟩ := h
    obtain ⟨a', r', rfl, ma, mr⟩ := ms
    cases mr
    replace h := onRef_inv h
    obtain ⟨r, rfl, h⟩ := h
    exact nAny (list_sound h S ma C)
  | barr =>
    replace h := on1_inv h
    obtain ⟨a, rfl, h⟩ := h
    obtain ⟨a', r', rfl, ma, mr⟩ := ms
    cases mr
    replace h := onInt_inv h
    obtain ⟨k, rfl, ⟨h0, h1⟩, q⟩ := h
    obtain ⟨t, rfl⟩ := ma
    refine call_ba h0 (Int.le_of_lt (Int.lt_trans h1 (by decide))) fun h' k' ho => ?_
    have z := S.alloc (x := .barr (List.replicate k.toNat 0)) k' (push_free _) ho (by show _ = _; simp)
    exact C _ _ (.ref H.length) _ _ s.toks q z.2 z.1 ⟨_, rfl, get_at _ S.len⟩
  | bytes =>
    replace h := on1_inv h
    obtain ⟨a, rfl, h⟩ := h
    obtain ⟨a', r', rfl, ma, mr⟩ := ms
    cases mr
    cases a <;> first | exact False.elim h | skip
    · rename_i k
      obtain ⟨⟨h0, h1⟩, q⟩ := h
      obtain ⟨t, rfl⟩ := ma
      refine nAny (bytes_type (bytes_new_int h0 (Int.le_of_lt (Int.lt_trans h1 (by decide))) ⟨typeIs_bytes _ _ _, ?_⟩))
      have z := C.same (v' := .bytes (Array.replicate k.toNat 0) s.toks) S q ⟨s.toks, by simp⟩ (s.toks + 1)
      exact z
    · obtain ⟨t, rfl⟩ := ma
      exact nAny (bytes_type (bytes_new_bytes ⟨typeIs_bytes _ _ _, C.same S h.2 ⟨t, rfl⟩ s.toks⟩))
    · rcases h with ⟨vs, ns, e, ei, hr, hz, q⟩ | ⟨x, e, hz, q⟩
      · exact nAny (bytesList_sound hh e ei hr hz q S ma C)
      · obtain ⟨a, o, rfl, ha, g1, m1⟩ := S.look ma e
        have m1' : o = { cls := .type "bytearray", data := .bytearray x.toArray } := m1
        subst m1'
        exact nAny (bytes_type (bytes_new_barr g1 (by rw [List.size_toArray, sizeLine_eq]; exact om471 hz) ⟨typeIs_bytes _ _ _, C.same S q ⟨_, rfl⟩ _⟩))
theorem methN_sound {m : MI} {o : AV} {as : List AV} {o' : Value} {as' : List Value} (h : methA m o as H Q) (S : St base ρ H s.heap) (mo : VM ρ o o') (ms : VMs ρ as as') (C : Cont base ρ s Q Qc) : wpN (M w) A (call (.builtin (miId m)) (o' :: as') []) Qc s := by
  cases m with
  | append =>
    replace h := onRef_inv (k := fun r H => on1 (fun v => ∃ vs, H[r]? = some (.list vs) ∧ vs.length < 100000 ∧ Q .none (H.set r (.list (vs ++ [v])))) as) h
    obtain ⟨r, rfl, h⟩ := h
    replace h := on1_inv h
    obtain ⟨v, rfl, h⟩ := h
    obtain ⟨a', r', rfl, ma, mr⟩ := ms
    cases mr
    exact nAny (append_sound h S mo ma C)
  | pop =>
    replace h := onRef_inv (k := fun r H => on0 (∃ (vs : List AV) (v : AV), H[r]? = some (.list (vs ++ [v])) ∧ vs.length < 100000 ∧ Q v (H.set r (.list vs))) as) h
    obtain ⟨r, rfl, h⟩ := h
    replace h := on0_inv h
    obtain ⟨rfl, h⟩ := h
    cases ms
    exact nAny (pop_sound h S mo C)
  | reverse =>
    replace h := onRef_inv (k := fun r H => on0 (∃ vs, H[r]? = some (.list vs) ∧ vs.length < 100000 ∧ Q .none (H.set r (.list vs.reverse))) as) h
    obtain ⟨r, rfl, h⟩ := h
    replace h := on0_inv h
    obtain ⟨rfl, h⟩ := h
    cases ms
    exact nAny (reverse_sound h S mo C)
  | join =>
    replace h := onByt_inv (k := fun b H => onNil (on1 (fun a => onRef (fun r H => ∃ vs bs, H[r]? = some (.list vs) ∧ byts? vs = some bs ∧ bs.flatten.length < 100000 ∧ Q (.byt bs.flatten) H) a H) as) b) h
    obtain ⟨b, rfl, h⟩ := h
    replace h := onNil_inv h
    obtain ⟨rfl, h⟩ := h
    replace h := on1_inv h
    obtain ⟨v, rfl, h⟩ := h
    obtain ⟨a', r', rfl, ma, mr⟩ := ms
    cases mr
    replace h := onRef_inv h
    obtain ⟨r, rfl, vs, bs, e, eb, hf, q⟩ := h
    obtain ⟨t, rfl⟩ := mo
    obtain ⟨a, its, k0, rfl, _, g1, m1⟩ := S.list ma e
    exact nAny (join_bytes g1 (byts_vals eb m1) (Nat.le_of_lt hf) fun t' tk => C.same S q ⟨t', rfl⟩ tk)
theorem toB_sound {i : Int} {t u v : Tok} (h0 : 0 ≤ i) (h1 : i < 65536) (S : St base ρ H s.heap) (q : Q (.byt [(i / 256).toNat.toUInt8, (i % 256).toNat.toUInt8]) H) (C : Cont base ρ s Q Qc) :
    wpN (M w) A (call (.builtin "int.to_bytes") [.int i t, .int 2 u, .str bigStr v] []) Qc s := by
  rw [show bigStr = PySem.Str.ofString "big" from by kernel_rfl]
  refine nAny (KTBy.to_big (k := 2) (B := 65536) (by decide) (by decide) h0 h1 fun b t' k' hb hl => ?_)
  have e : b = [(i / 256).toNat.toUInt8, (i % 256).toNat.toUInt8].toArray := by
    have : KTBy.little 2 i = [i % 256, i / 256 % 256] := rfl
    rw [this] at hb
    have e2 : (i / 256) % 256 = i / 256 := Int.emod_eq_of_lt (om472 h0) (om473 h1)
    rw [e2] at hb
    apply Array.toList_inj.mp
    have hb' : b.toList.map (fun c : UInt8 => ((c.toNat : Nat) : Int)) = [i / 256, i % 256] := hb
    match hbl : b.toList, hb' with
    | [x, y], hb' =>
      simp only [List.map_cons, List.map_nil, List.cons.injEq, and_true] at hb'
      obtain ⟨e3, e4⟩ := hb'
      rw [← e3, ← e4]
      simp
    | [], hb' => simp at hb'
    | [_], hb' => simp at hb'
    | _ :: _ :: _ :: _, hb' => simp at hb'
  subst e
  exact C.same S q ⟨t', rfl⟩ k'
theorem attrBase {o : Expr} {name : Str} (h : notSuper o = true) : attributeBase o name env (eval o env) = eval o env := by
  unfold attributeBase
  split
  · cases h
  · rfl
theorem nMethod {o : Expr} {name : Str} {apos pos : Pos} {args : List Expr} (hs : notSuper o = true) (hl : (apos.endLine == pos.line) = true) (hp : (backTo pos (starEach args env)).any (·.1) = false) (hlen : args.length < 20)
    (h : wpN (M w) A (eval o env) (fun ov s₁ => wpN (M w) A (getMethod ov name (do return (← importBound o env).getD true)) (fun fr s₂ => wpN (M w) A (callWith pos fr.1 fr.2 (backTo pos (starEach args env)) []) Qc s₂) s₁) s) :
    wpN (M w) A (eval (.Call (.Attribute o name apos) args [] pos) env) Qc s := by
  rw [arm_eval_Call, attrBase hs]
  refine nBind (nMono h fun ov s₁ h₁ => nBind (nStand ?_))
  have hform : methodCallForm (args.length + ([] : List Keyword).length) (backTo pos (starEach args env)) (backToKw pos (keywordEach [] env)) = true := by
    unfold methodCallForm
    have e1 : (backTo pos (starEach args env)).all (fun x => !x.1) = true := by
      rw [List.all_eq_true]; intro x hx
      have := List.any_eq_false.mp hp x hx
      simpa using this
    rw [e1]
    show (true && true && decide (args.length + 0 + 0 < 30)) = true
    simp; exact om474 hlen
  have hpos : methodCallPos true o env apos pos = pure pos := by unfold methodCallPos; simp [hl]
  unfold methodCall
  rw [hform]
  refine nBind (nHolding (nMono h₁ fun fr s₂ h₂ => ?_))
  obtain ⟨f, first⟩ := fr
  dsimp only
  exact nBind (nOf_eq hpos h₂)
theorem look_builtin (h : Heap) (id : String) : ∃ k, (k = Keeper.frame ∨ k = Keeper.machine) ∧ Looks (M w) h (keeperOf (.builtin id)) k := ⟨.machine, .inr rfl, Looks.now⟩
theorem look_type (h : Heap) (id : String) : ∃ k, (k = Keeper.frame ∨ k = Keeper.machine) ∧ Looks (M w) h (keeperOf (.type id)) k := ⟨.machine, .inr rfl, Looks.now⟩
theorem look_bi (h : Heap) (b : BI) : ∃ k, (k = Keeper.frame ∨ k = Keeper.machine) ∧ Looks (M w) h (keeperOf (biVal b)) k := by cases b <;> exact ⟨.machine, .inr rfl, Looks.now⟩
/-- a call by the name of a thing that is there -/
theorem nNameCall {id : Str} {p pos : Pos} {f : Value} {l : IEs} {es : List Expr} {P : Heap → Prop} (hc : ckEs nm vs l es = true) (hf : ∀ {Qn : Value → Shared → Prop}, Qn f s → wpN (M w) A (eval (.Name id p) env) Qn s)
    (hk : ∀ h, P h → ∃ k, (k = Keeper.frame ∨ k = Keeper.machine) ∧ Looks (M w) h (keeperOf f) k)
    (h : wpN (M w) A (spliced (backTo pos (starEach es env))) (fun vs s₁ => P s₁.heap ∧ wpN (M w) A (call f vs []) Qc s₁) s) : wpN (M w) A (eval (.Call (.Name id p) es [] pos) env) Qc s := by
  rw [arm_eval_Call_Name']
  exact nBind (hf (nCallWith (ck_plain hc) hk h))
end
end Mine
end
section
open PySem PySem.W PySem.Calls PyProof.Rows
open PySem.Sem (wp)
set_option maxHeartbeats 2000000
namespace Mine
structure Walk (w : World) (base : Heap) (it : Addr) (ρ₀ : List Addr) (items : List AV) (ok : AH → Prop) (Pit : Nat → Heap → Prop) : Prop where
  item : ∀ (A : Around) k v ρ' H' (s' : Shared) (Qn : Option Value → Shared → Prop), A.handled = none → items[k]? = some v → ok H' → St base ρ' H' s'.heap → ρ₀ <+: ρ' → Pit k s'.heap →
    (∀ v' h' tk, VM ρ' v v' → Pit (k + 1) h' → Heap.SameBut it s'.heap h' → Qn (some v') { s' with heap := h', toks := tk }) → wpAny (M w) A (pyNext (.ref it)) Qn (fun _ _ => False) s'
  done : ∀ (A : Around) ρ' H' (s' : Shared) (Qn : Option Value → Shared → Prop), A.handled = none → ok H' → St base ρ' H' s'.heap → ρ₀ <+: ρ' → Pit items.length s'.heap →
    (∀ h', Heap.ExtBut it s'.heap h' → Qn none { s' with heap := h' }) → wpAny (M w) A (pyNext (.ref it)) Qn (fun _ _ => False) s'
  keep : ∀ k h h', Pit k h → h'.get? it = h.get? it → Pit k h'
  alive : ∀ k h, Pit k h → ∃ o, h.get? it = some o
  self : ∀ (A : Around) k (s' : Shared) (Qn : Value → Shared → Prop), Pit k s'.heap → Qn (.ref it) s' → wpAny (M w) A (pyIter (.ref it)) Qn (fun _ _ => False) s'
theorem walk_list {w : World} {base : Heap} {it l : Addr} {ρ₀ : List Addr} {r : Nat} {vs : List AV} (hr : ρ₀[r]? = some l) : Walk w base it ρ₀ vs (fun H => H[r]? = some (.list vs)) (fun k h => h.IsListIter it l k) where
  item := fun A k v ρ' H' s' Qn hh hv ok S p hit hq => by
    obtain ⟨a, its, c, ea, _, g1, m1⟩ := S.list (v := .ref l) ⟨l, rfl, pre_get p hr⟩ ok
    cases ea
    obtain ⟨v', e, mv⟩ := m1.get hv
    exact wpAny_pyNext_list_item hit (isList_of g1) (by simpa using e) fun h' hi hs => hq v' h' s'.toks mv hi hs
  done := fun A ρ' H' s' Qn hh ok S p hit hq => by
    obtain ⟨a, its, c, ea, _, g1, m1⟩ := S.list (v := .ref l) ⟨l, rfl, pre_get p hr⟩ ok
    cases ea
    exact wpAny_pyNext_list_end hh hit (isList_of g1) (by simp [m1.length]) fun h' hs => hq h' hs
  keep := fun k h h' ⟨o, e, c⟩ q => ⟨o, q.trans e, c⟩
  alive := fun k h ⟨o, e, _⟩ => ⟨o, e⟩
  self := fun A k s' Qn hit q => wpAny_pyIter_listiter hit q
theorem walk_range {w : World} {base : Heap} {it : Addr} {ρ₀ : List Addr} {a st : Int} {N : Nat} : Walk w base it ρ₀ ((List.range N).map fun (i : Nat) => AV.int (a + i * st)) (fun _ => True) (fun k h => k ≤ N ∧ IsRangeIter h it (a + k * st) ((N : Int) - k) st) where
  item := fun A k v ρ' H' s' Qn hh hv ok S p hit hq => by
    have hk : k < N := by
      have := (List.getElem?_eq_some_iff.mp hv).1
      simpa using this
    have hv' : v = .int (a + k * st) := by
      rw [List.getElem?_map, List.getElem?_range hk] at hv
      cases hv; rfl
    subst hv'
    refine wpAny_pyNext_range_item hit.2 (om475 hk) fun h' hi hs => hq _ h' _ ⟨_, rfl⟩ ⟨hk, ?_⟩ hs
    have e1 : a + ((k + 1 : Nat) : Int) * st = a + k * st + st := by push_cast; rw [Int.add_mul]; exact om476
    have e2 : (N : Int) - ((k + 1 : Nat) : Int) = (N : Int) - k - 1 := by exact om477
    rw [e1, e2]; exact hi
  done := fun A ρ' H' s' Qn hh ok S p hit hq => wpAny_pyNext_range_end hh hit.2 (by simp) fun h' hs => hq h' hs
  keep := fun k h h' hp q => ⟨hp.1, by unfold IsRangeIter at *; rw [q]; exact hp.2⟩
  alive := fun k h hp => ⟨_, hp.2⟩
  self := fun A k s' Qn hit q => wpAny_pyIter_rangeiter hit.2 q
theorem St.adopt {base : Heap} {ρ : List Addr} {H : AH} {h : Heap} {a : Addr} {o : Obj} {x : AO} (S : St base ρ H h) (ha : a ∉ ρ) (hb : base.get? a = none) (ho : h.get? a = some o) (m : OM (ρ ++ [a]) x o) : St base (ρ ++ [a]) (H ++ [x]) h := by
  refine ⟨S.keep, fun b hb' => ?_, by simp [S.len], ?_, fun n o' e => ?_⟩
  · rcases List.mem_append.mp hb' with h | h
    · exact S.fresh b h
    · cases List.mem_singleton.mp h; exact hb
  · refine List.nodup_append.mpr ⟨S.nodup, by simp, fun b hm c hc => ?_⟩
    cases List.mem_singleton.mp hc
    intro e; subst e; exact ha hm
  · rcases Nat.lt_or_ge n H.length with hlt | hge
    · rw [List.getElem?_append_left hlt] at e
      obtain ⟨b, ob, e1, e2, m'⟩ := S.obj n o' e
      exact ⟨b, ob, pre_get ⟨[a], rfl⟩ e1, e2, m'.mono ⟨[a], rfl⟩⟩
    · rw [List.getElem?_append_right hge] at e
      have : n - H.length = 0 := by
        rcases Nat.eq_zero_or_pos (n - H.length) with q | q
        · exact q
        · rw [List.getElem?_eq_none (by simp only [List.length_cons, List.length_nil]; exact om478 q)] at e; cases e
      rw [this] at e
      simp at e; subst e
      have hn' : n = ρ.length := by rw [S.len]; exact om479 hge this
      subst hn'
      exact ⟨a, o, by simp, ho, m⟩
theorem Ext.same {ρ ρ' : List Addr} {h₀ h h' : Heap} (x : Ext ρ h₀ ρ' h) (k : ∀ b o, h₀.get? b = some o → h.get? b = some o → h'.get? b = some o) : Ext ρ h₀ ρ' h' :=
  ⟨x.grow, fun b o e hb => k b o e (x.keep b o e hb)⟩
theorem closure_of {scope : Scope} {env : Env} : ∀ (names : List (Str × NameKind)) (acc : List (Str × Addr)), (∀ p ∈ names, p.2 = .free → (env.cells.lookup p.1).isSome = true) →
    ∃ cl, (forIn names acc fun (x : Str × NameKind) (cs : List (Str × Addr)) => (do
      if (x.2 == NameKind.free) = true then do let c ← cellOf env x.1; pure (ForInStep.yield ((x.1, c) :: cs)) else pure (ForInStep.yield cs) : Sem (ForInStep (List (Str × Addr))))) = pure cl ∧
      (∀ n c, cl.lookup n = some c → acc.lookup n = some c ∨ env.cells.lookup n = some c) ∧
      (∀ n, (n, NameKind.free) ∈ names ∨ (∃ c, acc.lookup n = some c ∧ env.cells.lookup n = some c) → ∃ c, cl.lookup n = some c ∧ env.cells.lookup n = some c)
  | [], acc, _ => ⟨acc, rfl, fun n c h => .inl h, fun n h => h.elim (fun x => nomatch x) id⟩
  | (x, k) :: r, acc, h => by
    by_cases hk : k = .free
    · subst hk
      obtain ⟨c, hc⟩ := Option.isSome_iff_exists.mp (h _ (List.mem_cons_self ..) rfl)
      obtain ⟨cl, e1, e2, e3⟩ := closure_of (scope := scope) r ((x, c) :: acc) fun p hp => h p (List.mem_cons_of_mem _ hp)
      refine ⟨cl, ?_, fun n c' hl => ?_, fun n hn => e3 n ?_⟩
      · rw [List.forIn_cons]
        have e : cellOf env x = pure c := by unfold cellOf; simp only at hc; rw [hc]
        simp only [beq_self_eq_true, if_true, e, pure_bind]
        exact e1
      · rcases e2 n c' hl with h1 | h1
        · simp only [List.lookup_cons] at h1
          by_cases q : n = x
          · subst q
            simp only [beq_self_eq_true] at h1
            cases h1; exact .inr hc
          · rw [show (n == x) = false from beq_false_of_ne q] at h1
            exact .inl h1
        · exact .inr h1
      · by_cases q : n = x
        · subst q; exact .inr ⟨c, by simp, hc⟩
        · rcases hn with hn | ⟨c', h1, h2⟩
          · rcases List.mem_cons.mp hn with hn | hn
            · cases hn; exact absurd rfl q
            · exact .inl hn
          · refine .inr ⟨c', ?_, h2⟩
            simp only [List.lookup_cons]
            rw [show (n == x) = false from beq_false_of_ne q]
            exact h1
    · obtain ⟨cl, e1, e2, e3⟩ := closure_of (scope := scope) r acc fun p hp => h p (List.mem_cons_of_mem _ hp)
      refine ⟨cl, ?_, e2, fun n hn => e3 n ?_⟩
      · rw [List.forIn_cons]
        have : (k == NameKind.free) = false := by simpa using hk
        simp only [this, Bool.false_eq_true, if_false, pure_bind]
        exact e1
      · refine hn.imp (fun hn => ?_) id
        rcases List.mem_cons.mp hn with hn | hn
        · cases hn; exact absurd rfl hk
        · exact hn
theorem closureFor_some {scope : Scope} {env : Env} (h : ∀ p ∈ scope.names, p.2 = .free → (env.cells.lookup p.1).isSome = true) :
    ∃ cl, closureFor scope env = pure cl ∧ (∀ n c, cl.lookup n = some c → env.cells.lookup n = some c) ∧ (∀ n, (n, NameKind.free) ∈ scope.names → ∃ c, cl.lookup n = some c ∧ env.cells.lookup n = some c) := by
  obtain ⟨cl, e1, e2, e3⟩ := closure_of (scope := scope) scope.names [] h
  refine ⟨cl, ?_, fun n c hl => (e2 n c hl).elim (fun x => by simp at x) id, fun n hn => e3 n (.inl hn)⟩
  unfold closureFor
  have : (forIn scope.names [] fun (x : Str × NameKind) (cs : List (Str × Addr)) => (do
      if (x.2 == NameKind.free) = true then do let c ← cellOf env x.1; pure (ForInStep.yield ((x.1, c) :: cs)) else pure (ForInStep.yield cs) : Sem (ForInStep (List (Str × Addr))))) >>= pure = pure cl := by rw [e1]; rfl
  exact this
end Mine
end
section
open PySem PySem.W PySem.Calls PyProof.Rows
open PySem.Sem (wp)
set_option maxHeartbeats 2000000
namespace Mine
theorem St.off {base : Heap} {ρ : List Addr} {H : AH} {h h' : Heap} {a : Addr} (S : St base ρ H h) (k : ∀ b o, b ≠ a → h.get? b = some o → h'.get? b = some o) (ha : a ∉ ρ) (hb : base.get? a = none) : St base ρ H h' :=
  ⟨fun b o e => k b o (fun q => by subst q; rw [hb] at e; cases e) (S.keep b o e), S.fresh, S.len, S.nodup, fun n o' e => let ⟨b, o, e1, e2, m⟩ := S.obj n o' e; ⟨b, o, e1, k b o (fun q => ha (q ▸ List.mem_of_getElem? e1)) e2, m⟩⟩
theorem LR.frame {env : Env} {vars : List Str} {loc : Loc} {ρ : List Addr} {h h' : Heap} (F : LR env vars loc ρ h) (k : h'.get? env.locals = h.get? env.locals) (kc : ∀ x c, env.cells.lookup x = some c → h'.get? c = h.get? c) : LR env vars loc ρ h' := by
  obtain ⟨m, ⟨o, es, ep, e, d⟩, hv⟩ := F.ns
  refine ⟨F.kind, F.glob, F.blt, F.nd, F.slot, fun y c e => ?_, F.inj, F.nL, m, ⟨o, es, ep, k.trans e, d⟩, fun i y v e1 e2 => ?_⟩
  · obtain ⟨⟨v, o, eo, dd⟩, h1, h2⟩ := F.cell y c e
    exact ⟨⟨v, o, (kc y c e).trans eo, dd⟩, h1, h2⟩
  · obtain ⟨v', h1, h2⟩ := hv i y v e1 e2
    exact ⟨v', h1, h2.imp id fun ⟨a, c, b, o, eo, dd⟩ => ⟨a, c, b, o, (kc y c b).trans eo, dd⟩⟩
section
variable {w : World} {base : Heap} {n : Nat} {Γ : Orc} {A : Around} {env : Env} {nm : NM} {vs : List Str} {loc : Loc} {ρ ρ' : List Addr} {H H' : AH} {s : Shared} {Q : PQ} {Qc : Value → Shared → Prop}
theorem LR.store_local {E : Value → Shared → Prop} {M : Model} {i : Nat} {x : Str} {v : AV} {v' : Value} {Q : Unit → Shared → Prop} (F : LR env vs loc ρ s.heap) (hx : vs[i]? = some x) (hl : env.kindOf x = some .local) (hv : VM ρ v v')
    (h : ∀ h' tk, LR env vs (loc.set i (some v)) ρ h' → Heap.SameBut env.locals s.heap h' → Q () { s with heap := h', toks := tk }) : wpAny M A (storeName env x v') Q E s := by
  obtain ⟨m, hn, hvs⟩ := F.ns
  have hp : (env.scope.kind == .class || (env.scope.kind == .module && env.locals != env.globals)) = false := by rw [F.kind]; rfl
  have hi : i < vs.length := (List.getElem?_eq_some_iff.mp hx).1
  refine wpAny_storeName_local hl hn (fun h' hn' hs => h h' _ ⟨F.kind, F.glob, F.blt, F.nd, F.slot, fun y c e => ?_, F.inj, F.nL, _, hn', fun j y w e1 e2 => ?_⟩ hs) hp
  · obtain ⟨⟨v, o, eo, d⟩, h1, h2⟩ := F.cell y c e
    exact ⟨⟨v, o, (hs.2 c h2).trans eo, d⟩, h1, h2⟩
  · rw [List.getElem?_set] at e2
    split at e2
    · rename_i q; subst q
      rw [hx] at e1; cases e1
      split at e2
      · cases e2; exact ⟨v', hv, .inl ⟨hl, by simp⟩⟩
      · cases e2
    · rename_i q
      have hy : y ≠ x := fun r => q (by subst r; exact (List.getElem?_inj hi F.nd).mp (hx.trans e1.symm))
      obtain ⟨w', h1, h2⟩ := hvs j y w e1 e2
      refine ⟨w', h1, h2.imp (fun ⟨a, b⟩ => ⟨a, by simp [hy, b]⟩) fun ⟨a, c, b, o, eo, d⟩ => ⟨a, c, b, o, (hs.2 c (F.cell y c b).2.2).trans eo, d⟩⟩
theorem nAssignName {x : Str} {pos : Pos} {v : Value} {Q : Unit → Shared → Prop} (h : wpN (M w) A (storeName env x v) Q s) : wpN (M w) A (assign (.Name x pos) env v) Q s := by
  rw [PySem.assign_Name]
  refine nBind (nStand ?_)
  intro Γ p hΓ hN
  rw [Sem.wp_bindName]; exact h Γ p hΓ hN
/-- what stands of a comprehension between its turns -/
structure Turn (w : World) (base : Heap) (n : Nat) (A : Around) (cenv : Env) (nm : NM) (vs : List Str) (caps : Loc) (it acc : Addr) (h₀ : Heap) (s₀ : Shared) (ρ₀ ρ : List Addr) (H : AH) (ys : List AV) (s : Shared) : Prop where
  sh : ∃ h tk, s = { s₀ with heap := h, toks := tk }
  gb : Gb w base
  aok : AOk n A
  frm : Frm base cenv nm
  st : St base ρ H s.heap
  ext : Ext ρ₀ h₀ ρ s.heap
  lr : ∃ u, LR cenv vs (u :: caps) ρ s.heap
  accO : ∃ xs c, s.heap.get? acc = some ({ cls := .type "list", data := .seq (List.toArray xs) c } : Obj) ∧ VMs ρ ys xs
  off : it ∉ ρ ∧ acc ∉ ρ ∧ base.get? it = none ∧ base.get? acc = none ∧ h₀.get? acc = none ∧ h₀.get? cenv.locals = none ∧ it ≠ acc ∧ it ≠ cenv.locals ∧ acc ≠ cenv.locals ∧ base.get? cenv.locals = none
  cells : ∀ x c, cenv.cells.lookup x = some c → c ≠ it ∧ c ≠ acc
  itE : h₀.get? it = none
theorem comp_loop {elt : IE} {y itE : Expr} {sc : Scope} {pos px : Pos} {x : Str} {cenv : Env} {caps : Loc} {it acc : Addr} {h₀ : Heap} {s₀ : Shared} {ρ₀ : List Addr} {items : List AV} {ok : AH → Prop} {Pit : Nat → Heap → Prop} (hE : ES w base n Γ elt) (hy : ckE nm (x :: vs) elt y = true) (W : Walk w base it ρ₀ items ok Pit)
    (hx : cenv.kindOf x = some .local) (hit : items.length ≤ 1000000) {Qf : List AV → AH → Prop} {Qd : Shared → Prop}
    (fin : ∀ ρ' H' ys s', Turn w base n A cenv nm (x :: vs) caps it acc h₀ s₀ ρ₀ ρ' H' ys s' → Qf ys H' → Qd s') :
    ∀ (k : Nat) (rest ys : List AV) (ρ : List Addr) (H : AH) (s : Shared), items.drop k = rest → compTurns (fun v H Q => WE Γ elt (some v :: caps) H Q) ok rest ys H Qf → Turn w base n A cenv nm (x :: vs) caps it acc h₀ s₀ ρ₀ ρ H ys s → Pit k s.heap → k ≤ items.length → ys.length = k →
      codeN (M w) A (.compLoop (.ListComp y [⟨.Name x px, itE, [], 0⟩] sc pos) 0 (.ref it) (.ref acc) cenv) (fun _ s' => Qd s') s := by
  intro k rest
  induction rest generalizing k with
  | nil =>
    intro ys ρ H s hd h T hp hk hys
    obtain ⟨hok, hq⟩ := h
    have hk' : k = items.length := by
      have := congrArg List.length hd
      simp at this; exact om428 hk this
    subst hk'
    refine codeN_tree rfl ?_
    show wpN _ _ ((compTurn (.ListComp y [⟨.Name x px, itE, [], 0⟩] sc pos) 0 (.ref it) (.ref acc) cenv).onRaise _) _ s
    refine nOnRaise ?_
    rw [compTurn_list1]
    refine nBind (nStand (nBind (nAny (W.done A ρ H s _ T.aok.hand hok T.st T.ext.pre hp fun h' he => ?_))))
    refine nPure (fin ρ H ys _ ?_ hq)
    obtain ⟨o1, o2, o3, o4, o5, o6, o7, o8, o9, o10⟩ := T.off
    obtain ⟨u, lr⟩ := T.lr
    obtain ⟨hs0, tk0, hsh⟩ := T.sh
    obtain ⟨xs, c, ea, ma⟩ := T.accO
    refine ⟨⟨_, _, by rw [hsh]⟩, T.gb, T.aok, T.frm, T.st.off (a := it) (fun b o hb e => he b o hb e) o1 o3, T.ext.same fun b o e0 e => he b o (fun q => by subst q; rw [T.itE] at e0; cases e0) e, ⟨u, lr.frame ?_ fun y c e => ?_⟩, ⟨xs, c, he acc _ (Ne.symm o7) ea, ma⟩, T.off, T.cells, T.itE⟩
    · obtain ⟨m, ⟨o, es, ep, e, d⟩, _⟩ := lr.ns
      exact (he _ _ (Ne.symm o8) e).trans e.symm
    · obtain ⟨⟨v, o, eo, d⟩, _, _⟩ := lr.cell y c e
      exact (he _ _ (T.cells y c e).1 eo).trans eo.symm
  | cons v rest ih =>
    intro ys ρ H s hd h T hp hk hys
    obtain ⟨hok, hq⟩ := h
    have hk1 : items[k]? = some v := by
      have := congrArg (fun l => l[0]?) hd
      simpa using this
    have hk2 : k < items.length := (List.getElem?_eq_some_iff.mp hk1).1
    refine codeN_tree rfl ?_
    show wpN _ _ ((compTurn (.ListComp y [⟨.Name x px, itE, [], 0⟩] sc pos) 0 (.ref it) (.ref acc) cenv).onRaise _) _ s
    refine nOnRaise ?_
    rw [compTurn_list1]
    refine nBind (nStand (nBind (nAny (W.item A k v ρ H s _ T.aok.hand hk1 hok T.st T.ext.pre hp fun v' h1 tk1 mv hp1 hs1 => ?_))))
    obtain ⟨o1, o2, o3, o4, o5, o6, o7, o8, o9, o10⟩ := T.off
    obtain ⟨u, lr⟩ := T.lr
    obtain ⟨hs0, tk0, hsh⟩ := T.sh
    obtain ⟨xs, c, ea, ma⟩ := T.accO
    have st1 : St base ρ H h1 := T.st.off (a := it) (fun b o hb e => (hs1.2 b hb).trans e) o1 o3
    have lr1 : LR cenv (x :: vs) (u :: caps) ρ h1 := lr.frame (hs1.2 _ (Ne.symm o8)) fun y c e => hs1.2 _ (T.cells y c e).1
    have ex1 : Ext ρ₀ h₀ ρ h1 := T.ext.same fun b o e0 e => (hs1.2 b fun q => by subst q; rw [T.itE] at e0; cases e0).trans e
    have ea1 := (hs1.2 acc (Ne.symm o7)).trans ea
    refine nBind (nOf_eq (a := ()) rfl ?_)
    refine nBind (nAssignName (nAny (lr1.store_local (i := 0) (s := { s with heap := h1, toks := tk1 }) rfl hx mv fun h2 tk2 lr2 hs2 => ?_)))
    have lr2' : LR cenv (x :: vs) (some v :: caps) ρ h2 := lr2
    have st2 : St base ρ H h2 := st1.off (a := cenv.locals) (fun b o hb e => (hs2.2 b hb).trans e) lr2.nL o10
    have ex2 : Ext ρ₀ h₀ ρ h2 := ex1.same fun b o e0 e => (hs2.2 b fun q => by subst q; rw [o6] at e0; cases e0).trans e
    have ea2 := (hs2.2 acc o9).trans ea1
    have hp2 : Pit (k + 1) h2 := W.keep _ _ _ hp1 (hs2.2 it o8)
    refine nBind (nBind ?_)
    refine hE nm (x :: vs) y cenv A (some v :: caps) ρ H { s with heap := h2, toks := tk2 } _ _ hy hq ⟨T.gb, T.aok, T.frm, lr2', st2⟩ fun ρ3 H3 z z' h3 tk3 hq3 x3 st3 mz => ?_
    have o1' : it ∉ ρ3 := by
      obtain ⟨o, eo⟩ := W.alive _ _ hp2
      exact x3.off eo o1
    have o2' : acc ∉ ρ3 := x3.off ea2 o2
    have ea3 := x3.keep _ _ ea2 o2
    have lr3 := lr2'.ext x3
    have ex3 : Ext ρ₀ h₀ ρ3 h3 := ex2.trans st2 x3
    have hp3 : Pit (k + 1) h3 := by
      obtain ⟨o, eo⟩ := W.alive _ _ hp2
      exact W.keep _ _ _ hp2 ((x3.keep _ _ eo o1).trans eo.symm)
    have hlen : (xs.toArray).size ≤ sizeLine := by rw [List.size_toArray, ma.length, sizeLine_eq]; exact om480 hit hys hk2
    refine nBind (nAny (append_at (s := { s with heap := h3, toks := tk3 }) ea3 (fun h4 hs4 ho4 => ?_) hlen))
    refine nPure (nPure ⟨rfl, ?_⟩)
    refine ih (k + 1) (ys ++ [z]) ρ3 H3 { s with heap := h4, toks := tk3 } (by
      have := congrArg (List.drop 1) hd
      simpa using this) hq3 ⟨⟨_, _, by rw [hsh]⟩, T.gb, T.aok, T.frm, st3.off (a := acc) (fun b o hb e => (hs4.2 b hb).trans e) o2' o4, ex3.same fun b o e0 e => (hs4.2 b fun q => by subst q; rw [o5] at e0; cases e0).trans e, ⟨some v, lr3.frame (hs4.2 _ (Ne.symm o9)) fun y c e => hs4.2 _ (T.cells y c e).2⟩, ⟨xs ++ [z'], c + 1, by simpa using ho4, (ma.mono x3.pre).append (.one mz)⟩, ⟨o1', o2', o3, o4, o5, o6, o7, o8, o9, o10⟩, T.cells, T.itE⟩ (W.keep _ _ _ hp3 (hs4.2 it o7)) hk2 (by simp [hys])
end
end Mine
end
section
open PySem PySem.W PySem.Calls PyProof.Rows
open PySem.Sem (wp)
set_option maxHeartbeats 2000000
namespace Mine
section
variable {w : World} {base : Heap} {n : Nat} {Γ : Orc} {A : Around} {env : Env} {nm : NM} {vs : List Str} {loc : Loc} {ρ ρ' : List Addr} {H H' : AH} {s : Shared} {Q : PQ} {Qc : Value → Shared → Prop}
theorem nComp {e : Expr} {scope : Scope} {pos : Pos} {newAcc first : Sem Value} {g : Comprehension} {gs : List Comprehension} {cl : List (Str × Addr)}
    (hcl : clausesOf e = g :: gs) (hs : ∀ x, foldedSetIterable g.iter env x = pure x) (hclos : closureFor scope env = pure cl)
    (hkind : scope.kind = .function) (hnames : ∀ x ∈ scope.names, x.2 = .local → scope.names.lookup x.1 = some .local)
    (h : wpN (M w) A first (fun x s₁ => wpN (M w) A (pyIter x) (fun it s₂ => wpN (M w) A newAcc (fun acc s₃ =>
      wpN (M w) A (newFunctionEnv scope env.globals cl [] env.qual none .none (some env)) (fun cenv s₄ =>
        codeN (M w) A (.compStart e 0 it acc { cenv with scope := relabel scope env }) (fun _ s' => ∃ m, s'.heap.Ns cenv.locals m ∧ ∀ h', Heap.SameBut cenv.locals s'.heap h' → Qc acc { s' with heap := h' }) s₄) s₃) s₂) s₁) s) :
    wpN (M w) A (comprehension e scope env pos newAcc false first none) Qc s := by
  unfold comprehension
  rw [hclos, hcl]
  refine nBind (nMono h fun x s₁ h₁ => nBind (nStand (nBind (nOf_eq (hs x) (nBind (nHolding (nMono h₁ fun it s₂ h₂ => ?_)))))))
  refine nIteF Bool.false_ne_true ?_
  refine nBind (nMono h₂ fun acc s₃ h₃ => nBind (nPure (nBind (nMono h₃ fun cenv s₄ h₄ => ?_))))
  dsimp only
  have hv : ∀ x ∈ (scope.names.filter fun x => (x.2 == .local || x.2 == .cell) && x.1 != (".0" : Str)).reverse, x.2 = .local →
      Env.kindOf { cenv with scope := relabel scope env } x.1 = some .local := fun x hx hl => lookup_relabel_local (hnames x (List.mem_filter.mp (List.mem_reverse.mp hx)).1 hl)
  refine nHolding (nBind (nAttempt (nHolding (nRun (codeN_mono h₄ fun r s' hr => ?_)))))
  obtain ⟨m, hn, hr⟩ := hr
  refine nBind (nHolding (nAny (wpAny_comp_letGo (cenv := { cenv with scope := relabel scope env }) hkind _ s' m hv hn fun h' m' _ hs' => ?_)))
  exact nPure (hr h' hs')
theorem nCompStart {elt target iter : Expr} {ifs : List Expr} {rest : List Comprehension} {scope : Scope} {pos : Pos} {it acc : Value} {Qd : Flow → Shared → Prop}
    (h0 : codeN (M w) A (.compLoop (.ListComp elt (⟨target, iter, ifs, 0⟩ :: rest) scope pos) 0 it acc env) Qd s)
    (h : wpN (M w) A (pyIter it) (fun it' s' => codeN (M w) A (.compLoop (.ListComp elt (⟨target, iter, ifs, 0⟩ :: rest) scope pos) 0 it' acc env) Qd s') s) :
    codeN (M w) A (.compStart (.ListComp elt (⟨target, iter, ifs, 0⟩ :: rest) scope pos) 0 it acc env) Qd s := by
  refine codeN_tree rfl ?_
  show wpN _ _ ((compStart (.ListComp elt (⟨target, iter, ifs, 0⟩ :: rest) scope pos) 0 it acc env).onRaise _) _ s
  refine nOnRaise ?_
  unfold compStart
  show wpN _ _ (ask >>= _) _ s
  refine nBind (nAny (wpAny_askSetting ?_))
  split
  · exact nPure (And.intro rfl h0)
  · refine nBind (nRule ?_)
    show wpN _ _ (standAt iter.pos >>= _) _ s
    exact nBind (nStand (nBind (nMono h fun it' s' h' => nPure (And.intro rfl h'))))
theorem ne2 {b k : Nat} (h : b < k) : b ≠ k + 1 := Nat.ne_of_lt (Nat.lt_succ_of_lt h)
theorem lookup_map {g : Str → NameKind → NameKind} : ∀ (names : NM) (y : Str), (names.map fun (p : Str × NameKind) => (p.1, g p.1 p.2)).lookup y = (names.lookup y).map (g y)
  | [], y => rfl
  | (n, k) :: r, y => by
    simp only [List.map_cons, List.lookup_cons]
    by_cases q : y = n
    · subst q; simp
    · rw [show (y == n) = false from beq_false_of_ne q]; exact lookup_map r y
theorem mem_of_lookup' : ∀ {names : NM} {y : Str} {k : NameKind}, names.lookup y = some k → (y, k) ∈ names
  | (n, k') :: r, y, k, h => by
    simp only [List.lookup_cons] at h
    by_cases q : y = n
    · subst q; simp at h; subst h; exact List.mem_cons_self ..
    · rw [show (y == n) = false from beq_false_of_ne q] at h
      exact List.mem_cons_of_mem _ (mem_of_lookup' h)
theorem lookup_of_mem : ∀ {names : NM} {y : Str} {k : NameKind}, (names.map (·.1)).Nodup → (y, k) ∈ names → names.lookup y = some k
  | (n, k') :: r, y, k, hd, h => by
    simp only [List.map_cons, List.nodup_cons] at hd
    simp only [List.lookup_cons]
    rcases List.mem_cons.mp h with h2 | h2
    · cases h2; simp
    · by_cases q : y = n
      · subst q; exact absurd (List.mem_map.mpr ⟨(y, k), h2, rfl⟩ : y ∈ List.map (fun (p : Str × NameKind) => p.1) r) hd.1
      · rw [show (y == n) = false from beq_false_of_ne q]; exact lookup_of_mem hd.2 h2
theorem caps_get {vs : List Str} {caps : List Nat} {i : Nat} {y : Str} (h : (capNames vs caps)[i]? = some y) (ha : caps.all (fun i => (vs[i]?).isSome) = true) : ∃ j, caps[i]? = some j ∧ vs[j]? = some y := by
  unfold capNames at h
  rw [List.getElem?_map] at h
  cases e : caps[i]? with
  | none => rw [e] at h; cases h
  | some j =>
    rw [e] at h
    have hm := List.all_eq_true.mp ha j (List.mem_of_getElem? e)
    obtain ⟨z, hz⟩ := Option.isSome_iff_exists.mp hm
    refine ⟨j, rfl, ?_⟩
    simp only [Option.map_some, hz, Option.getD_some] at h
    cases h; exact hz
/-- a comprehension over an iterator that stands -/
theorem comp_tail {elt : IE} {y itE : Expr} {sc : Scope} {pos px : Pos} {x : Str} {caps : List Nat} {it : Addr} {items : List AV} {ok : AH → Prop} {Pit : Nat → Heap → Prop} {cl : List (Str × Addr)} {h₀ : Heap} {Qf : List AV → AH → Prop}
    (hE : ES w base n Γ elt) (hc : compOk nm vs caps x sc = true) (hy : ckE (ownKinds nm sc.names) (x :: capNames vs caps) elt y = true)
    (h : Here w base n A env nm vs loc ρ H s) (W : Walk w base it ρ items ok Pit) (hp : Pit 0 s.heap) (hio : it ∉ ρ ∧ base.get? it = none ∧ h₀.get? it = none) (hcells : ∀ z c, env.cells.lookup z = some c → c ≠ it)
    (hk : ∀ b o, h₀.get? b = some o → s.heap.get? b = some o) (hlen : items.length ≤ 1000000)
    (hcl1 : ∀ n c, cl.lookup n = some c → env.cells.lookup n = some c) (hcl2 : ∀ n, (n, NameKind.free) ∈ sc.names → ∃ c, cl.lookup n = some c ∧ env.cells.lookup n = some c)
    (hw : compTurns (fun v H Q => WE Γ elt (some v :: capsOf loc caps) H Q) ok items [] H Qf)
    (C : ∀ ρ' H' ys a h' tk, Qf ys H' → Ext ρ h₀ (ρ' ++ [a]) h' → St base (ρ' ++ [a]) (H' ++ [.list ys]) h' → ρ'.length = H'.length → Qc (.ref a) { s with heap := h', toks := tk }) :
    wpN (M w) A (newList []) (fun acc s₃ =>
      wpN (M w) A (newFunctionEnv sc env.globals cl [] env.qual none .none (some env)) (fun cenv s₄ =>
        codeN (M w) A (.compStart (.ListComp y [⟨.Name x px, itE, [], 0⟩] sc pos) 0 (.ref it) acc { cenv with scope := relabel sc env }) (fun _ s' => ∃ m, s'.heap.Ns cenv.locals m ∧ ∀ h', Heap.SameBut cenv.locals s'.heap h' → Qc acc { s' with heap := h' }) s₄) s₃) s := by
  unfold compOk at hc
  simp only [Bool.and_eq_true, beq_iff_eq, decide_eq_true_eq] at hc
  obtain ⟨⟨⟨⟨⟨⟨c1, c2⟩, c3⟩, c4⟩, c5⟩, c6⟩, c7⟩ := hc
  obtain ⟨i1, i2, i3⟩ := hio
  have i4 : it < s.heap.objs.size := by obtain ⟨o, e⟩ := W.alive _ _ hp; exact Heap.lt_size e
  refine nAny (wpAny_newObj_type ?_ (Nat.zero_le _))
  have hcell : ∀ z ∈ sc.names, z.2 ≠ .cell := fun z hz e => by
    have := List.all_eq_true.mp c6 z hz
    rw [e] at this; simp at this
  refine nAny (wpAny_newFunctionEnv hcell (fun z hz => nomatch hz) (fun h1 hn1 hs1 => ?_) c1)
  have sz : (s.heap.push ({ cls := .type "list", data := .seq ([] : List Value).toArray } : Obj)).objs.size = s.heap.objs.size + 1 := Heap.size_push _ _
  dsimp only at hn1 hs1 ⊢
  rw [sz] at hn1 hs1 ⊢
  have k1 : ∀ b o, s.heap.get? b = some o → h1.get? b = some o := fun b o e => by
    have hb := Heap.lt_size e
    rw [hs1.2 b (ne2 hb)]
    exact Heap.get?_push_of_some _ (Heap.get?_push_of_some _ e)
  have acc1 : h1.get? s.heap.objs.size = some ({ cls := .type "list", data := .seq ([] : List Value).toArray } : Obj) := by
    rw [hs1.2 _ (Nat.ne_of_lt (Nat.lt_succ_self _))]
    exact Heap.get?_push_of_some _ (Heap.get?_push_size _ rfl)
  have noS : ∀ a, s.heap.objs.size ≤ a → ∀ g : Heap, (∀ b o, g.get? b = some o → s.heap.get? b = some o) → g.get? a = none := fun a ha g hg => by
    cases q : g.get? a with
    | none => rfl
    | some o => exact absurd (Heap.lt_size (hg a o q)) (Nat.not_lt.mpr ha)
  have noR : ∀ a, s.heap.objs.size ≤ a → a ∉ ρ := fun a ha hm => by
    obtain ⟨o, e⟩ := h.st.alive hm
    exact absurd (Heap.lt_size e) (Nat.not_lt.mpr ha)
  have lk : ∀ z, (relabel sc env).names.lookup z = (sc.names.lookup z).map fun k => if (k == .free && nm.lookup z == some .cell) = true then .cell else k := fun z => by
    have hk2 : env.scope.kind = .function := h.lr.kind
    have e : (relabel sc env).names = sc.names.map fun (p : Str × NameKind) => (p.1, (fun (z : Str) (k : NameKind) => if (k == .free && nm.lookup z == some .cell) = true then NameKind.cell else k) p.1 p.2) := by
      unfold relabel
      refine List.map_congr_left fun p _ => ?_
      obtain ⟨a, k⟩ := p
      dsimp only
      unfold Env.kindOf
      rw [hk2, h.frm.names]
      simp only [beq_self_eq_true, Bool.and_true]
      split <;> rfl
    rw [e]; exact lookup_map (g := fun (z : Str) (k : NameKind) => if (k == .free && nm.lookup z == some .cell) = true then NameKind.cell else k) _ z
  have own : (relabel sc env).names = ownKinds nm sc.names := by
    have hk2 : env.scope.kind = .function := h.lr.kind
    unfold relabel ownKinds
    refine List.map_congr_left fun p _ => ?_
    obtain ⟨a, k⟩ := p
    dsimp only
    unfold Env.kindOf
    rw [hk2, h.frm.names]
    simp only [beq_self_eq_true, Bool.and_true]
  have capCell : ∀ z ∈ capNames vs caps, (relabel sc env).names.lookup z = some .cell ∧ nm.lookup z = some .cell ∧ ∃ c, cl.lookup z = some c ∧ env.cells.lookup z = some c := fun z hz => by
    have := List.all_eq_true.mp c5 z hz
    simp only [Bool.and_eq_true, beq_iff_eq] at this
    refine ⟨?_, this.2, hcl2 z (mem_of_lookup' this.1)⟩
    rw [lk z, this.1, this.2]; rfl
  have st1 : St base ρ H h1 := h.st.grown k1
  have lr1 : LR { newEnv sc (s.heap.objs.size + 1) env.globals cl env.qual none .none (some env) builtinsNs with scope := relabel sc env } (x :: capNames vs caps) (none :: capsOf loc caps) ρ h1 := by
    refine ⟨c1, h.lr.glob, h.lr.blt, c3, fun z hz => ?_, fun z c e => ?_, fun z z' c e e' => h.lr.inj z z' c (hcl1 _ _ e) (hcl1 _ _ e'), noR _ (Nat.le_succ _), _, hn1, fun i z v e1 e2 => ?_⟩
    · rcases List.mem_cons.mp hz with rfl | hz
      · refine .inl ?_
        show (relabel sc env).names.lookup z = _
        rw [lk z, c4]; rfl
      · obtain ⟨a, _, c, b, _⟩ := capCell z hz
        exact .inr ⟨a, by show (cl.lookup z).isSome = true; rw [b]; rfl⟩
    · obtain ⟨⟨v, o, eo, d⟩, h1', h2'⟩ := h.lr.cell z c (hcl1 _ _ e)
      refine ⟨⟨v, o, k1 _ _ eo, d⟩, h1', ?_⟩
      exact ne2 (Heap.lt_size eo)
    · cases i with
      | zero => simp at e2
      | succ i =>
        simp only [List.getElem?_cons_succ] at e1 e2
        obtain ⟨j, ej, hj⟩ := caps_get e1 c2
        unfold capsOf at e2
        rw [List.getElem?_map, ej] at e2
        simp only [Option.map_some, Option.some.injEq] at e2
        have hl : loc[j]? = some (some v) := by
          cases q : loc[j]? with
          | none => rw [q] at e2; cases e2
          | some u => rw [q] at e2; simp at e2; rw [e2]
        obtain ⟨m, hn, hvs⟩ := h.lr.ns
        obtain ⟨v', mv, hat⟩ := hvs j z v hj hl
        have hz : z ∈ capNames vs caps := List.mem_of_getElem? e1
        obtain ⟨ca, cb, c, cc, cd⟩ := capCell z hz
        refine ⟨v', mv, .inr ⟨ca, c, cc, ?_⟩⟩
        rcases hat with ⟨a, _⟩ | ⟨_, c', e', o, eo, d⟩
        · unfold Env.kindOf at a; rw [h.frm.names, cb] at a; cases a
        · rw [cd] at e'; cases e'
          exact ⟨o, k1 _ _ eo, d⟩
  have loop := comp_loop (s₀ := s) (h₀ := h₀) (ρ₀ := ρ) (nm := ownKinds nm sc.names) (vs := capNames vs caps) (cenv := { newEnv sc (s.heap.objs.size + 1) env.globals cl env.qual none .none (some env) builtinsNs with scope := relabel sc env }) (caps := capsOf loc caps) (it := it) (acc := s.heap.objs.size)
    (itE := itE) (sc := sc) (pos := pos) (px := px) hE hy W (by show (relabel sc env).names.lookup x = _; rw [lk x, c4]; rfl) hlen (Qf := Qf)
    (Qd := fun s' => ∃ m, s'.heap.Ns (s.heap.objs.size + 1) m ∧ ∀ h', Heap.SameBut (s.heap.objs.size + 1) s'.heap h' → Qc (.ref s.heap.objs.size) { s' with heap := h' }) (fun ρ' H' ys s' T hq => ?_)
    0 items [] ρ H { s with heap := h1, toks := s.toks + 0 } rfl hw
    ⟨⟨_, _, rfl⟩, h.gb, h.aok, ⟨own, fun z o e => ⟨fun q => ?_, fun z' q => (h.frm.off z o e).2 z' (hcl1 _ _ q)⟩, fun z hz => ?_⟩, st1, Ext.grown fun b o e => k1 _ _ (hk _ _ e), ⟨none, lr1⟩, ⟨[], 0, acc1, rfl⟩,
      ⟨i1, noR _ (Nat.le_refl _), i2, noS _ (Nat.le_refl _) _ h.st.keep, noS _ (Nat.le_refl _) _ hk, noS _ (Nat.le_succ _) _ hk, Nat.ne_of_lt i4, ne2 i4, Nat.ne_of_lt (Nat.lt_succ_self _), noS _ (Nat.le_succ _) _ h.st.keep⟩,
      fun z c e => ⟨hcells _ _ (hcl1 _ _ e), ?_⟩, i3⟩ (W.keep _ _ _ hp (by obtain ⟨o, e⟩ := W.alive _ _ hp; exact (k1 _ _ e).trans e.symm)) (Nat.zero_le _) rfl
  · refine nCompStart loop (nAny (W.self A 0 _ _ (W.keep _ _ _ hp (by obtain ⟨o, e⟩ := W.alive _ _ hp; exact (k1 _ _ e).trans e.symm)) loop))
  · obtain ⟨hs0, tk0, rfl⟩ := T.sh
    obtain ⟨o1, o2, o3, o4, o5, o6, o7, o8, o9, o10⟩ := T.off
    obtain ⟨u, lr⟩ := T.lr
    obtain ⟨xs, c, ea, ma⟩ := T.accO
    obtain ⟨m, hn, _⟩ := lr.ns
    refine ⟨m, hn, fun h' hs' => ?_⟩
    have st2 : St base ρ' H' h' := T.st.off (a := s.heap.objs.size + 1) (fun b o hb e => (hs'.2 b hb).trans e) lr.nL o10
    have ex2 : Ext ρ h₀ ρ' h' := T.ext.same fun b o e0 e => (hs'.2 b fun q => by subst q; rw [show h₀.get? (s.heap.objs.size + 1) = none from o6] at e0; cases e0).trans e
    have ea2 := (hs'.2 _ o9).trans ea
    have st3 := st2.adopt (x := .list ys) o2 o4 ea2 ⟨xs, c, rfl, ma.mono ⟨_, rfl⟩⟩
    refine C ρ' H' ys s.heap.objs.size h' tk0 hq ⟨?_, fun b o e hb => ex2.keep b o e hb⟩ st3 st2.len
    obtain ⟨new, en, hnew⟩ := ex2.grow
    exact ⟨new ++ [s.heap.objs.size], by rw [en, List.append_assoc], fun a ha => by
      rcases List.mem_append.mp ha with ha | ha
      · exact hnew a ha
      · cases List.mem_singleton.mp ha; exact o5⟩
  · exact absurd q (ne2 (Heap.lt_size (h.st.keep _ _ e)))
  · show (cl.lookup z).isSome = true
    have hz2 : (relabel sc env).names.lookup z = some .cell := by rw [own]; exact hz
    rw [lk z] at hz2
    cases q : sc.names.lookup z with
    | none => rw [q] at hz2; cases hz2
    | some k =>
      rw [q] at hz2
      have hm := mem_of_lookup' q
      by_cases hf : k = .free
      · subst hf
        obtain ⟨c, e, _⟩ := hcl2 z hm
        rw [e]; rfl
      · have : (k == NameKind.free) = false := by simpa using hf
        simp only [Option.map_some, this, Bool.false_and, Bool.false_eq_true, if_false, Option.some.injEq] at hz2
        exact absurd hz2 (hcell _ hm)
  · obtain ⟨⟨v, o, eo, d⟩, _, _⟩ := h.lr.cell z c (hcl1 _ _ e)
    exact Nat.ne_of_lt (Heap.lt_size eo)
end
end Mine
end
section
open PySem PySem.W PySem.Calls PyProof.Rows
open PySem.Sem (wp)
set_option maxHeartbeats 2000000
namespace Mine
theorem fn_keep (P : Params) : (gfuns.all fun p => keepIn (K P) (.ref p.2)) = true := by kernel_rfl
theorem cls_keep (P : Params) : (gclss.all fun p => keepIn (K P) (.ref p.2)) = true := by kernel_rfl
theorem meth_keep (P : Params) : ([267, 274, 281, 288, 295, 189].all fun a => fnIn (K P) a && typeIn (K P) (.ref a) == some (.type "function")) = true := by kernel_rfl
theorem lookup_mem {α : Type} : ∀ {l : List (Str × α)} {y : Str} {k : α}, l.lookup y = some k → (y, k) ∈ l
  | (n, k') :: r, y, k, h => by
    simp only [List.lookup_cons] at h
    by_cases q : y = n
    · subst q; simp at h; subst h; exact List.mem_cons_self ..
    · rw [show (y == n) = false from beq_false_of_ne q] at h
      exact List.mem_cons_of_mem _ (lookup_mem h)
theorem fn_keep_at {P : Params} {id : Str} {a : Addr} (h : gfuns.lookup id = some a) : keepIn (K P) (.ref a) = true := List.all_eq_true.mp (fn_keep P) _ (lookup_mem h)
theorem cls_keep_at {P : Params} {id : Str} {a : Addr} (h : gclss.lookup id = some a) : keepIn (K P) (.ref a) = true := List.all_eq_true.mp (cls_keep P) _ (lookup_mem h)
theorem meth_facts (P : Params) : (findIn (K P) (.ref 312) s102 = some (some (.ref 274)) ∧ findIn (K P) (.ref 312) s103 = some (some (.ref 281)) ∧ findIn (K P) (.ref 312) s104 = some (some (.ref 288)) ∧ findIn (K P) (.ref 312) s105 = some (some (.ref 295))) := ⟨by kernel_rfl, by kernel_rfl, by kernel_rfl, by kernel_rfl⟩
theorem umStr_noattr (nme : Nat) (a : Str) (h : umStr nme = some a) (n : AN) : n.str ≠ a := by
  unfold umStr at h
  split at h <;> first | (cases h; cases n <;> decide +kernel) | cases h
theorem FM.none {ρ : List Addr} {a : Str} (ha : ∀ n : AN, n.str ≠ a) : ∀ {fs : List (AN × AV)} {es : List DictEntry}, FM ρ fs es → PySem.W.getL a es = some none
  | [], _, h => by cases h; rfl
  | (k, v) :: fs, _, ⟨e, r, t, q, hk, hv, x⟩ => by
    subst q
    have ih := x.none ha
    unfold PySem.W.getL at ih ⊢
    rw [List.find?_cons_of_neg (by rw [hk]; simp only [Value.isStr]; simpa using ha k)]
    revert ih
    cases hf : r.find? (fun x => x.key.isStr a) with
    | some e' => intro ih; cases ih
    | none =>
      intro _
      have : (e :: r).any (·.refKey) = false := by
        rw [List.any_cons, x.nokey]; simp [DictEntry.refKey, hk]
      simp only [this]; rfl
section
variable {w : World} {base : Heap} {n : Nat} {Γ : Orc} {A : Around} {env : Env} {nm : NM} {vs : List Str} {loc : Loc} {ρ ρ' : List Addr} {H H' : AH} {s : Shared} {Q : PQ} {Qc : Value → Shared → Prop}
theorem notSet_marks {op : CmpOp} {r : Expr} (h : notSet r = true) : behindInMarks op r = false := by
  cases r <;> first | rfl | (exact absurd h Bool.false_ne_true)
theorem notSet_iter {r : Expr} (h : notSet r = true) (x : Value) : foldedSetIterable r env x = pure x := by
  cases r <;> first | rfl | (exact absurd h Bool.false_ne_true)
theorem um_find {P : Params} {nme : Nat} {a : Str} {f : Addr} {C : Addr} (hu : umStr nme = some a) (hm : methOf C nme = some f) : C = 312 ∧ findIn (K P) (.ref C) a = some (some (.ref f)) ∧ typeIn (K P) (.ref f) = some (.type "function") ∧ fnIn (K P) f = true := by
  unfold methOf at hm
  split at hm
  · rename_i hC
    subst hC
    have F := meth_facts P
    have G := List.all_eq_true.mp (meth_keep P)
    simp only [Bool.and_eq_true, beq_iff_eq] at G
    split at hm <;> cases hm <;> simp only [umStr, Option.some.injEq] at hu <;> subst hu
    · exact ⟨rfl, F.1, (G 274 (by simp)).2, (G 274 (by simp)).1⟩
    · exact ⟨rfl, F.2.1, (G 281 (by simp)).2, (G 281 (by simp)).1⟩
    · exact ⟨rfl, F.2.2.1, (G 288 (by simp)).2, (G 288 (by simp)).1⟩
    · exact ⟨rfl, F.2.2.2, (G 295 (by simp)).2, (G 295 (by simp)).1⟩
  · cases hm
theorem fn_look {P : Params} {f : Addr} (hf : fnIn (K P) f = true) (h : Heap) (X : (K P).In h) : ∃ k, (k = Keeper.frame ∨ k = Keeper.machine) ∧ Looks (M w) h (keeperOf (.ref f)) k := by
  refine looks_keep ?_ X
  unfold fnIn at hf
  unfold keepIn
  split at hf <;> rename_i e
  · dsimp only; rw [e]
  · cases hf
theorem recv_um {r : Nat} {o' : Value} {nme : Nat} {a : Str} {f C : Addr} {d : Nat} {fs : List (AN × AV)} {pl : Sem Bool} {Qm : Value × List Value → Shared → Prop} (g : Gb w base) (hu : umStr nme = some a) (hm : methOf C nme = some f) (S : St base ρ H s.heap) (mo : VM ρ (.ref r) o') (e1 : H[r]? = some (.inst C d)) (e2 : H[d]? = some (.dict fs))
    (q : ∀ x, o' = .ref x → Qm (.ref f, [.ref x]) s) : wpAny (M w) A (getMethod o' a pl) Qm (fun _ _ => False) s := by
  obtain ⟨x, ox, dx, es, k, rfl, ha, hd, g2, m2, I, hdx⟩ := S.inst mo e1 e2
  obtain ⟨rfl, hf, ht, _⟩ := um_find (P := w.params) hu hm
  have ok := (clsOk_all w.params).2
  unfold clsOk at ok
  simp only [Bool.and_eq_true, List.all_eq_true, beq_iff_eq] at ok
  obtain ⟨⟨⟨⟨h1, h2⟩, h3⟩, h4⟩, h5⟩ := ok
  unfold plainGet at h3
  simp only [Bool.and_eq_true, beq_iff_eq] at h3
  refine method_fn (S.K g) I h3.1 h3.2 hf ht ?_ (q x rfl)
  show (lookIn a (dictOf es k)).map _ = _
  rw [lookIn_dict, m2.none (umStr_noattr nme a hu)]; rfl
theorem newList_sound {as : List AV} {xs : List Value} (hl : as.length < 1000) (q : Q (.ref H.length) (H ++ [.list as])) (S : St base ρ H s.heap) (ms : VMs ρ as xs) (C : Cont base ρ s Q Qc) : wpN (M w) A (newList xs) Qc s :=
  nAny (wpAny_newObj_type (C.fresh (x := .list as) S rfl ⟨xs, 0, rfl, ms.mono ⟨_, rfl⟩⟩ q _) (by show xs.toArray.size ≤ sizeLine; rw [List.size_toArray, ms.length, sizeLine_eq]; exact om422 hl))
theorem newTuple_sound {as : List AV} {xs : List Value} (hl : as.length < 1000) (q : Q (.ref H.length) (H ++ [.tup as])) (S : St base ρ H s.heap) (ms : VMs ρ as xs) (C : Cont base ρ s Q Qc) : wpN (M w) A (newTuple xs) Qc s :=
  nAny (wpAny_newObj_type (C.fresh (x := .tup as) S rfl ⟨xs, 0, rfl, ms.mono ⟨_, rfl⟩⟩ q _) (by show xs.toArray.size ≤ sizeLine; rw [List.size_toArray, ms.length, sizeLine_eq]; exact om422 hl))
/-- the slice's object, then the item -/
theorem slice_sound {value : Expr} {x y : Option Expr} {p : Pos} {l u : Value} {o : AV} {o' : Value} {lo hi : Option Int} (h : slcP o lo hi H Q) (S : St base ρ H s.heap) (mo : VM ρ o o') (pl : IsPart l lo) (pu : IsPart u hi) (C : Cont base ρ s Q Qc) :
    wpN (M w) A (newFields "slice" [l, u, .none]) (fun i s' => wpN (M w) A (subscriptTail value (.Slice x y none p) o' i) Qc s') s :=
  nAny (wpAny_newObj_type (nAny (slcP_sound (value := value) (l := .Constant .none 0 p) (u := .Constant .none 0 p) h S mo pl pu C)) (by show 3 ≤ _; rw [sizeLine_eq]; exact om423))
end
end Mine
end
section
open PySem PySem.W PySem.Calls PyProof.Rows
open PySem.Sem (wp)
set_option maxHeartbeats 2000000
namespace Mine
section
variable {w : World} {base : Heap} {n : Nat} {Γ : Orc} {A : Around} {env : Env} {nm : NM} {vs : List Str} {loc : Loc} {ρ ρ' : List Addr} {H H' : AH} {s : Shared} {Q : PQ} {Qc : Value → Shared → Prop}
theorem L_nil : LS w base n Γ .nil := fun nm vs xs env A loc ρ H s Q Qc pos hc h hh C => by
  cases nilB_inv (l := xs) hc
  exact splice_nil (C ρ H [] [] s.heap s.toks h (Ext.refl ..) hh.st rfl)
theorem L_cons {e : IE} {r : IEs} (he : ES w base n Γ e) (hr : LS w base n Γ r) : LS w base n Γ (.cons e r) := fun nm vs xs env A loc ρ H s Q Qc pos hc h hh C => by
  replace hc := consB_inv (l := xs) hc
  obtain ⟨x, xs, rfl, hc⟩ := hc
  · simp only [Bool.and_eq_true] at hc
    rw [star_cons hc.1.1]
    refine splice_cons (he _ _ _ _ _ _ _ _ _ _ _ hc.1.2 h hh fun ρ1 H1 v v' h1 tk1 q1 x1 S1 m1 => ?_)
    refine hr _ _ _ _ _ _ _ _ _ _ _ _ hc.2 q1 (hh.step x1 S1) fun ρ2 H2 us us' h2 tk2 q2 x2 S2 m2 => ?_
    exact C ρ2 H2 (v :: us) (v' :: us') h2 tk2 q2 (x1.trans S1 x2) S2 ⟨v', us', rfl, m1.mono x2.pre, m2⟩
theorem And_nil : AndS w base n Γ .nil := fun nm vs xs env A loc ρ H s Q Qc pos hc h hh C => h.elim
theorem Or_nil : OrS w base n Γ .nil := fun nm vs xs env A loc ρ H s Q Qc pos hc h hh C => h.elim
theorem And_cons {e : IE} {r : IEs} (he : ES w base n Γ e) (hr : AndS w base n Γ r) : AndS w base n Γ (.cons e r) := fun nm vs xs env A loc ρ H s Q Qc pos hc h hh C => by
  replace hc := consB_inv (l := xs) hc
  obtain ⟨x, xs, rfl, hc⟩ := hc
  · simp only [Bool.and_eq_true] at hc
    cases r with
    | nil =>
      cases nilB_inv (l := xs) hc.2
      exact he _ _ _ _ _ _ _ _ _ _ _ hc.1.2 h hh C
    | cons e2 r2 =>
      have hc2 := consB_inv (l := xs) hc.2
      obtain ⟨x2, xs2, rfl, hc2⟩ := hc2
      · show wpN _ _ (eval x env >>= _) _ _
        refine nBind (he _ _ _ _ _ _ _ _ _ _ _ hc.1.2 h hh fun ρ1 H1 v v' h1 tk1 q1 x1 S1 m1 => ?_)
        refine nBind (nStand (nBind (nHolding (nAny (truA_sound q1 S1 m1 fun b tk hb => ?_)))))
        cases b with
        | false => exact nPure (C ρ1 H1 v v' h1 tk hb x1 S1 m1)
        | true => exact hr _ _ _ _ _ _ _ _ _ _ _ _ hc.2 hb (hh.step x1 S1) (C.step x1 S1)
theorem Or_cons {e : IE} {r : IEs} (he : ES w base n Γ e) (hr : OrS w base n Γ r) : OrS w base n Γ (.cons e r) := fun nm vs xs env A loc ρ H s Q Qc pos hc h hh C => by
  replace hc := consB_inv (l := xs) hc
  obtain ⟨x, xs, rfl, hc⟩ := hc
  · simp only [Bool.and_eq_true] at hc
    cases r with
    | nil =>
      cases nilB_inv (l := xs) hc.2
      exact he _ _ _ _ _ _ _ _ _ _ _ hc.1.2 h hh C
    | cons e2 r2 =>
      have hc2 := consB_inv (l := xs) hc.2
      obtain ⟨x2, xs2, rfl, hc2⟩ := hc2
      · show wpN _ _ (eval x env >>= _) _ _
        refine nBind (he _ _ _ _ _ _ _ _ _ _ _ hc.1.2 h hh fun ρ1 H1 v v' h1 tk1 q1 x1 S1 m1 => ?_)
        refine nBind (nStand (nBind (nHolding (nAny (truA_sound q1 S1 m1 fun b tk hb => ?_)))))
        cases b with
        | true => exact nPure (C ρ1 H1 v v' h1 tk hb x1 S1 m1)
        | false => exact hr _ _ _ _ _ _ _ _ _ _ _ _ hc.2 hb (hh.step x1 S1) (C.step x1 S1)
theorem ContB.step {ρ : List Addr} {s : Shared} {Q : Bool → AH → Prop} {Qc : Bool → Shared → Prop} {h' : Heap} {tk : Nat} (C : ContB base ρ s Q Qc) (x : Ext ρ s.heap ρ' h') (S : St base ρ' H' h') : ContB base ρ' { s with heap := h', toks := tk } Q Qc :=
  fun ρ'' H'' b h'' tk' q y S' => C ρ'' H'' b h'' tk' q (x.trans S y) S'
theorem Ts_nil : TsS w base n Γ .nil := fun nm vs xs env A loc ρ H s Q Qc hc h hh C => by
  cases nilB_inv (l := xs) hc
  exact nPure (C ρ H true s.heap s.toks h (Ext.refl ..) hh.st)
theorem To_nil : ToS w base n Γ .nil := fun nm vs xs env A loc ρ H s Q Qc hc h hh C => by
  cases nilB_inv (l := xs) hc
  exact nPure (C ρ H false s.heap s.toks h (Ext.refl ..) hh.st)
theorem Ts_cons {e : IE} {r : IEs} (he : TS w base n Γ e) (hr : TsS w base n Γ r) : TsS w base n Γ (.cons e r) := fun nm vs xs env A loc ρ H s Q Qc hc h hh C => by
  replace hc := consB_inv (l := xs) hc
  obtain ⟨x, xs, rfl, hc⟩ := hc
  · simp only [Bool.and_eq_true] at hc
    rw [arm_allTrue_cons]
    refine nBind (he _ _ _ _ _ _ _ _ _ _ _ hc.1 h hh fun ρ1 H1 b h1 tk1 q1 x1 S1 => ?_)
    cases b with
    | false => exact nPure (C ρ1 H1 false h1 tk1 q1 x1 S1)
    | true => exact hr _ _ _ _ _ _ _ _ _ _ _ hc.2 q1 (hh.step x1 S1) (C.step x1 S1)
theorem To_cons {e : IE} {r : IEs} (he : TS w base n Γ e) (hr : ToS w base n Γ r) : ToS w base n Γ (.cons e r) := fun nm vs xs env A loc ρ H s Q Qc hc h hh C => by
  replace hc := consB_inv (l := xs) hc
  obtain ⟨x, xs, rfl, hc⟩ := hc
  · simp only [Bool.and_eq_true] at hc
    rw [arm_allTrue_cons]
    refine nBind (he _ _ _ _ _ _ _ _ _ _ _ hc.1 h hh fun ρ1 H1 b h1 tk1 q1 x1 S1 => ?_)
    cases b with
    | true => exact nPure (C ρ1 H1 true h1 tk1 q1 x1 S1)
    | false => exact hr _ _ _ _ _ _ _ _ _ _ _ hc.2 q1 (hh.step x1 S1) (C.step x1 S1)
theorem E_bin {op : BOp} {a b : IE} (ha : ES w base n Γ a) (hb : ES w base n Γ b) : ES w base n Γ (.bin op a b) := fun nm vs x env A loc ρ H s Q Qc hc h hh C => by
  replace hc := isBin_inv hc
  obtain ⟨l, o, r, pos, rfl, hc⟩ := hc
  simp only [Bool.and_eq_true] at hc
  rw [arm_eval_BinOp]
  refine nBind (ha _ _ _ _ _ _ _ _ _ _ _ hc.1.2 h hh fun ρ1 H1 v v' h1 tk1 q1 x1 S1 m1 => ?_)
  refine nBind (nHolding (hb _ _ _ _ _ _ _ _ _ _ _ hc.2 q1 (hh.step x1 S1) fun ρ2 H2 u u' h2 tk2 q2 x2 S2 m2 => ?_))
  exact nBind (nStand (nOperate (nAny (binA_sound (s := { s with heap := h2, toks := tk2 }) hc.1.1 q2 S2 (m1.mono x2.pre) m2 ((C.step (tk := tk1) x1 S1).step (tk := tk2) x2 S2)))))
theorem E_neg {a : IE} (ha : ES w base n Γ a) : ES w base n Γ (.neg a) := fun nm vs x env A loc ρ H s Q Qc hc h hh C => by
  replace hc := isUna_inv hc
  obtain ⟨o, y, pos, rfl, hc⟩ := hc
  replace hc := and2 hc
  obtain ⟨ho, hc⟩ := hc
  cases isUSub_inv ho
  rw [arm_eval_UnaryOp]
  refine nBind (ha _ _ _ _ _ _ _ _ _ _ _ hc h hh fun ρ1 H1 v v' h1 tk1 q1 x1 S1 m1 => ?_)
  cases v <;> first | exact False.elim q1 | skip
  obtain ⟨t, rfl⟩ := m1
  exact nBind (nStand (nHolding (nAny (neg_int (s := { s with heap := h1, toks := tk1 }) (C _ _ _ _ _ _ q1 x1 S1 ⟨_, rfl⟩)))))
theorem cmp_sound {op : COp} {a b : IE} {l r : Expr} {o : CmpOp} {pos : Pos} (ha : ES w base n Γ a) (hb : ES w base n Γ b) (ho : copOk op o = true) (hr : notSet r = true) (c1 : ckE nm vs a l = true) (c2 : ckE nm vs b r = true)
    (h : WE Γ a loc H fun x H => WE Γ b loc H fun y H => cmpA op x y H Q) (hh : Here w base n A env nm vs loc ρ H s) (C : Cont base ρ s Q Qc) :
    wpN (M w) A (do let x ← eval l env; let y ← holding [x] (markedBehindIn o r (eval r env)); standAt pos; operate [x, y] (compareOp o x y)) Qc s := by
  rw [markedBehindIn_of_false (notSet_marks hr)]
  refine nBind (ha _ _ _ _ _ _ _ _ _ _ _ c1 h hh fun ρ1 H1 v v' h1 tk1 q1 x1 S1 m1 => ?_)
  refine nBind (nHolding (hb _ _ _ _ _ _ _ _ _ _ _ c2 q1 (hh.step x1 S1) fun ρ2 H2 u u' h2 tk2 q2 x2 S2 m2 => ?_))
  exact nBind (nStand (nOperate (nAny (cmpA_sound (s := { s with heap := h2, toks := tk2 }) hh.aok.un ho q2 S2 (m1.mono x2.pre) m2 ((C.step (tk := tk1) x1 S1).step (tk := tk2) x2 S2)))))
theorem E_cmp {op : COp} {a b : IE} (ha : ES w base n Γ a) (hb : ES w base n Γ b) : ES w base n Γ (.cmp op a b) := fun nm vs x env A loc ρ H s Q Qc hc h hh C => by
  replace hc := isCmp1_inv hc
  obtain ⟨l, o, r, pos, rfl, hc⟩ := hc
  simp only [Bool.and_eq_true] at hc
  rw [eval_Compare1]
  exact cmp_sound ha hb hc.1.1.1 hc.1.1.2 hc.1.2 hc.2 h hh C
theorem T_cmp {op : COp} {a b : IE} (ha : ES w base n Γ a) (hb : ES w base n Γ b) : TS w base n Γ (.cmp op a b) := fun nm vs x env A loc ρ H s Q Qc hc h hh C => by
  replace hc := isCmp1_inv hc
  obtain ⟨l, o, r, pos, rfl, hc⟩ := hc
  simp only [Bool.and_eq_true] at hc
  rw [isTrue_Compare1]
  rw [markedBehindIn_of_false (notSet_marks hc.1.1.2)]
  refine nBind (ha _ _ _ _ _ _ _ _ _ _ _ hc.1.2 h hh fun ρ1 H1 v v' h1 tk1 q1 x1 S1 m1 => ?_)
  refine nBind (nHolding (hb _ _ _ _ _ _ _ _ _ _ _ hc.2 q1 (hh.step x1 S1) fun ρ2 H2 u u' h2 tk2 q2 x2 S2 m2 => ?_))
  refine nBind (nStand (nBind (nOperate (nAny (cmpA_sound (ρ := ρ2) (H := H2) (s := { s with heap := h2, toks := tk2 }) hh.aok.un hc.1.1.1 q2 S2 (m1.mono x2.pre) m2 fun ρ3 H3 z z' h3 tk3 q3 x3 S3 m3 => ?_)))))
  exact nHolding (nAny (truA_sound (s := { s with heap := h3, toks := tk3 }) q3 S3 m3 fun b tk hb => C ρ3 H3 b h3 tk hb ((x1.trans S1 x2).trans S2 x3) S3))
end
end Mine
end
section
open PySem PySem.W PySem.Calls PyProof.Rows
open PySem.Sem (wp)
set_option maxHeartbeats 2000000
namespace Mine
theorem init_all (P : Params) : (makesIn (K P) 199 = true ∧ findIn (K P) (.ref 199) "__init__" = some (some (.ref 189)) ∧ typeIn (K P) (.ref 189) = some (.type "function")) ∧ (makesIn (K P) 312 = true ∧ findIn (K P) (.ref 312) "__init__" = some (some (.ref 267)) ∧ typeIn (K P) (.ref 267) = some (.type "function")) :=
  ⟨⟨by kernel_rfl, by kernel_rfl, by kernel_rfl⟩, ⟨by kernel_rfl, by kernel_rfl, by kernel_rfl⟩⟩
theorem init_facts (P : Params) {C f : Addr} (h : initOf C = some f) : makesIn (K P) C = true ∧ findIn (K P) (.ref C) "__init__" = some (some (.ref f)) ∧ typeIn (K P) (.ref f) = some (.type "function") := by
  unfold initOf at h
  split at h
  · rename_i q; subst q; cases h; exact (init_all P).2
  · split at h
    · rename_i q; subst q; cases h; exact (init_all P).1
    · cases h
section
variable {w : World} {base : Heap} {n : Nat} {Γ : Orc} {A : Around} {env : Env} {nm : NM} {vs : List Str} {loc : Loc} {ρ ρ' : List Addr} {H H' : AH} {s : Shared} {Q : PQ} {Qc : Value → Shared → Prop}
theorem E_none : ES w base n Γ .none := fun nm vs x env A loc ρ H s Q Qc hc h hh C => by
  replace hc := isCst_inv hc
  obtain ⟨c, k, pos, rfl, hc⟩ := hc
  cases cstN_inv hc
  rw [arm_eval_Constant]
  exact nPure (C.same hh.st h rfl s.toks)
theorem E_bool {b : Bool} : ES w base n Γ (.bool b) := fun nm vs x env A loc ρ H s Q Qc hc h hh C => by
  replace hc := isCst_inv hc
  obtain ⟨c, k, pos, rfl, hc⟩ := hc
  cases cstB_inv hc
  rw [arm_eval_Constant]
  exact nPure (C.same hh.st h rfl s.toks)
theorem E_int {i : Int} : ES w base n Γ (.int i) := fun nm vs x env A loc ρ H s Q Qc hc h hh C => by
  replace hc := isCst_inv hc
  obtain ⟨c, k, pos, rfl, hc⟩ := hc
  cases cstI_inv hc
  rw [arm_eval_Constant]
  exact nAny (wpAny_mkInt (C.same hh.st h ⟨_, rfl⟩ _))
theorem E_byt {b : List UInt8} : ES w base n Γ (.byt b) := fun nm vs x env A loc ρ H s Q Qc hc h hh C => by
  replace hc := isCst_inv hc
  obtain ⟨c, k, pos, rfl, hc⟩ := hc
  cases cstY_inv hc
  rw [arm_eval_Constant]
  exact nAny (wpAny_mkTextBytes (C.same hh.st h ⟨_, rfl⟩ _))
theorem E_var {i : Nat} : ES w base n Γ (.var i) := fun nm vs x env A loc ρ H s Q Qc hc h hh C => by
  replace hc := isNam_inv hc
  obtain ⟨id, pos, rfl, hc⟩ := hc
  simp only [Bool.and_eq_true, beq_iff_eq, bne_iff_ne, ne_eq] at hc
  obtain ⟨v, hv, q⟩ := vget_eq h
  exact var_sound hc.1 hc.2 hv q hh C
theorem E_glob {i : Int} : ES w base n Γ (.glob i) := fun nm vs x env A loc ρ H s Q Qc hc h hh C => by
  replace hc := isNam_inv hc
  obtain ⟨id, pos, rfl, hc⟩ := hc
  simp only [Bool.and_eq_true, beq_iff_eq] at hc
  obtain ⟨mg, mb, g1, g2, gi, gf, gc, gb, gr, gr2⟩ := hh.gb.ns
  obtain ⟨t, e⟩ := gi _ _ hc.2
  exact nAny (globV hc.1 hh g1 e (C.same hh.st h ⟨t, rfl⟩ s.toks))
theorem E_ands {l : IEs} (hl : AndS w base n Γ l) : ES w base n Γ (.ands l) := fun nm vs x env A loc ρ H s Q Qc hc h hh C => by
  replace hc := isBoo_inv hc
  obtain ⟨o, es, pos, rfl, hc⟩ := hc
  replace hc := and2 hc
  obtain ⟨ho, hc⟩ := hc
  cases isAnd_inv ho
  rw [arm_eval_BoolOp]
  exact hl _ _ _ _ _ _ _ _ _ _ _ _ hc h hh C
theorem E_ors {l : IEs} (hl : OrS w base n Γ l) : ES w base n Γ (.ors l) := fun nm vs x env A loc ρ H s Q Qc hc h hh C => by
  replace hc := isBoo_inv hc
  obtain ⟨o, es, pos, rfl, hc⟩ := hc
  replace hc := and2 hc
  obtain ⟨ho, hc⟩ := hc
  cases isOr_inv ho
  rw [arm_eval_BoolOp]
  exact hl _ _ _ _ _ _ _ _ _ _ _ _ hc h hh C
theorem E_ite {t a b : IE} (ht : TS w base n Γ t) (ha : ES w base n Γ a) (hb : ES w base n Γ b) : ES w base n Γ (.ite t a b) := fun nm vs x env A loc ρ H s Q Qc hc h hh C => by
  replace hc := isIte_inv hc
  obtain ⟨x, y, z, pos, rfl, hc⟩ := hc
  simp only [Bool.and_eq_true] at hc
  rw [arm_eval_IfExp]
  refine nBind (ht _ _ _ _ _ _ _ _ _ _ _ hc.1.1 h hh fun ρ1 H1 c h1 tk1 q1 x1 S1 => ?_)
  cases c with
  | true => exact ha _ _ _ _ _ _ _ _ _ _ _ hc.1.2 q1 (hh.step x1 S1) (C.step x1 S1)
  | false => exact hb _ _ _ _ _ _ _ _ _ _ _ hc.2 q1 (hh.step x1 S1) (C.step x1 S1)
theorem E_call {f : Addr} {args : IEs} (hO : OrcOk w base n Γ) (hl : LS w base n Γ args) : ES w base n Γ (.call f args) := fun nm vs x env A loc ρ H s Q Qc hc h hh C => by
  replace hc := isFun_inv hc
  obtain ⟨id, p, es, pos, rfl, hc⟩ := hc
  simp only [Bool.and_eq_true, beq_iff_eq] at hc
  obtain ⟨mg, mb, g1, g2, gi, gf, gc, gb, gr, gr2⟩ := hh.gb.ns
  refine nNameCall (P := fun h => (K w.params).In h) hc.1.2 (fun q => nAny (globV hc.1.1.1 hh g1 (gf _ _ hc.1.1.2) q)) (fun h X => looks_keep (fn_keep_at hc.1.1.2) X) ?_
  refine hl _ _ _ _ _ _ _ _ _ _ _ _ hc.1.2 h hh fun ρ1 H1 as as' h1 tk1 q1 x1 S1 m1 => ⟨St.K (s := { s with heap := h1, toks := tk1 }) S1 hh.gb, ?_⟩
  exact hO A hh.aok.c _ _ _ _ _ { s with heap := h1, toks := tk1 } _ _ q1 S1 m1 (C.step x1 S1)
theorem T_call {f : Addr} {args : IEs} (hO : OrcOk w base n Γ) (hl : LS w base n Γ args) : TS w base n Γ (.call f args) := fun nm vs x env A loc ρ H s Q Qc hc h hh C => by
  have hc0 := hc
  have h0 := isFun_inv hc
  obtain ⟨id, p, es, pos, rfl, _⟩ := h0
  show wpN _ _ (eval (.Call (.Name _ _) _ [] _) env >>= fun v => standAt _ >>= fun _ => holding [v] (truthy v)) _ _
  refine nBind (E_call (f := f) (args := args) hO hl nm vs _ env A loc ρ H s (fun v H => truA v H Q) _ hc0 h hh fun ρ1 H1 v v' h1 tk1 q1 x1 S1 m1 => ?_)
  exact nBind (nStand (nHolding (nAny (truA_sound (s := { s with heap := h1, toks := tk1 }) q1 S1 m1 fun b tk hb => C ρ1 H1 b h1 tk hb x1 S1))))
theorem T_var {i : Nat} : TS w base n Γ (.var i) := fun nm vs x env A loc ρ H s Q Qc hc h hh C => by
  have hc0 := hc
  have h0 := isNam_inv hc
  obtain ⟨id, pos, rfl, _⟩ := h0
  show wpN _ _ (eval (.Name id pos) env >>= fun v => standAt _ >>= fun _ => holding [v] (truthy v)) _ _
  refine nBind (E_var (Γ := Γ) (i := i) nm vs _ env A loc ρ H s (fun v H => truA v H Q) _ hc0 h hh fun ρ1 H1 v v' h1 tk1 q1 x1 S1 m1 => ?_)
  exact nBind (nStand (nHolding (nAny (truA_sound (s := { s with heap := h1, toks := tk1 }) q1 S1 m1 fun b tk hb => C ρ1 H1 b h1 tk hb x1 S1))))
theorem T_bool {b : Bool} : TS w base n Γ (.bool b) := fun nm vs x env A loc ρ H s Q Qc hc h hh C => by
  replace hc := isCst_inv hc
  obtain ⟨c, k, pos, rfl, hc⟩ := hc
  cases cstB_inv hc
  show wpN _ _ (eval (.Constant (.bool b) k pos) env >>= fun v => standAt _ >>= fun _ => holding [v] (truthy v)) _ _
  refine nBind (nPure (nBind (nStand (nHolding (nAny (wpAny_truthy_bool (C ρ H b s.heap s.toks h (Ext.refl ..) hh.st)))))))
theorem T_not {a : IE} (ha : TS w base n Γ a) : TS w base n Γ (.unot a) := fun nm vs x env A loc ρ H s Q Qc hc h hh C => by
  replace hc := isUna_inv hc
  obtain ⟨o, y, pos, rfl, hc⟩ := hc
  replace hc := and2 hc
  obtain ⟨ho, hc⟩ := hc
  cases isNot_inv ho
  rw [arm_isTrue_UnaryOp]
  refine nBind (ha _ _ _ _ _ _ _ _ _ _ _ hc h hh fun ρ1 H1 b h1 tk1 q1 x1 S1 => ?_)
  exact nPure (C ρ1 H1 (!b) h1 tk1 q1 x1 S1)
theorem T_ands {l : IEs} (hl : TsS w base n Γ l) : TS w base n Γ (.ands l) := fun nm vs x env A loc ρ H s Q Qc hc h hh C => by
  replace hc := isBoo_inv hc
  obtain ⟨o, es, pos, rfl, hc⟩ := hc
  replace hc := and2 hc
  obtain ⟨ho, hc⟩ := hc
  cases isAnd_inv ho
  rw [arm_isTrue_BoolOp]
  exact hl _ _ _ _ _ _ _ _ _ _ _ hc h hh C
theorem T_ors {l : IEs} (hl : ToS w base n Γ l) : TS w base n Γ (.ors l) := fun nm vs x env A loc ρ H s Q Qc hc h hh C => by
  replace hc := isBoo_inv hc
  obtain ⟨o, es, pos, rfl, hc⟩ := hc
  replace hc := and2 hc
  obtain ⟨ho, hc⟩ := hc
  cases isOr_inv ho
  rw [arm_isTrue_BoolOp]
  exact hl _ _ _ _ _ _ _ _ _ _ _ hc h hh C
theorem E_bi {b : BI} {args : IEs} (hl : LS w base n Γ args) : ES w base n Γ (.bi b args) := fun nm vs x env A loc ρ H s Q Qc hc h hh C => by
  replace hc := isFun_inv hc
  obtain ⟨id, p, es, pos, rfl, hc⟩ := hc
  simp only [Bool.and_eq_true, beq_iff_eq] at hc
  obtain ⟨mg, mb, g1, g2, gi, gf, gc, gb, gr, gr2⟩ := hh.gb.ns
  obtain ⟨⟨⟨c1, c2⟩, c3⟩, c4⟩ := hc
  subst c2
  refine nNameCall (P := fun _ => True) c3 (fun q => nAny (globB c1 hh g1 g2 (gb b).1 (gb b).2 q)) (fun h _ => look_bi h b) ?_
  refine hl _ _ _ _ _ _ _ _ _ _ _ _ c3 h hh fun ρ1 H1 as as' h1 tk1 q1 x1 S1 m1 => ⟨trivial, ?_⟩
  exact biN_sound (s := { s with heap := h1, toks := tk1 }) hh.aok.hand q1 S1 m1 (C.step x1 S1)
theorem E_new {Cl : Addr} {args : IEs} (hO : OrcOk w base n Γ) (hl : LS w base n Γ args) : ES w base n Γ (.new Cl args) := fun nm vs x env A loc ρ H s Q Qc hc h hh C => by
  replace hc := isFun_inv hc
  obtain ⟨id, p, es, pos, rfl, hc⟩ := hc
  simp only [Bool.and_eq_true, beq_iff_eq] at hc
  obtain ⟨mg, mb, g1, g2, gi, gf, gc, gb, gr, gr2⟩ := hh.gb.ns
  refine nNameCall (P := fun h => (K w.params).In h) hc.1.2 (fun q => nAny (globV hc.1.1.1 hh g1 (gc _ _ hc.1.1.2) q)) (fun h X => looks_keep (cls_keep_at hc.1.1.2) X) ?_
  refine hl _ _ _ _ _ _ _ _ _ _ _ _ hc.1.2 h hh fun ρ1 H1 as as' h1 tk1 q1 x1 S1 m1 => ⟨St.K (s := { s with heap := h1, toks := tk1 }) S1 hh.gb, ?_⟩
  obtain ⟨f, hf, q1⟩ := q1
  have ini := init_facts w.params hf
  have X1 := St.K (s := { s with heap := h1, toks := tk1 }) S1 hh.gb
  have A1 := S1.alloc (h' := h1.push emptyDict) (a := h1.objs.size) (o := emptyDict) (x := .dict []) (fun b o e => Heap.get?_push_of_some _ e) (push_free _) (Heap.get?_push_size _ rfl) ⟨[], 0, rfl, rfl⟩
  have sz : (h1.push emptyDict).objs.size = h1.objs.size + 1 := Heap.size_push _ _
  have lenρ : ρ1.length = H1.length := S1.len
  have A2 := A1.1.alloc (h' := (h1.push emptyDict).push (instObj Cl h1.objs.size)) (a := h1.objs.size + 1) (o := instObj Cl h1.objs.size) (x := .inst Cl H1.length) (fun b o e => Heap.get?_push_of_some _ e) (by have := push_free (h1.push emptyDict); rw [sz] at this; exact this)
    (by have := Heap.get?_push_size (h1.push emptyDict) (o := instObj Cl h1.objs.size) rfl; rw [sz] at this; exact this) ⟨h1.objs.size, #[], rfl, pre_get ⟨_, rfl⟩ (get_at _ lenρ)⟩
  refine nNew (rest := as') (makes_of X1 ini.1) (looks_findIn X1 ini.2.1) (fun self => bind_fn X1 self ini.2.2) ?_
  refine hO (A.under (.builtin "type.__call__" ⟨.ref Cl :: as', []⟩)) ⟨hh.aok.hand, ?_, ?_⟩ f (.ref (H1.length + 1) :: as) _ _ _ ⟨(h1.push emptyDict).push (instObj Cl h1.objs.size), s.gens, s.drawn, tk1, s.os⟩ (.ref (h1.objs.size + 1) :: as') _ (by
    have e : H1 ++ [.dict [], .inst Cl H1.length] = H1 ++ [.dict []] ++ [.inst Cl H1.length] := by simp
    rw [e] at q1; exact q1) A2.1 ⟨_, _, rfl, ⟨_, rfl, get_at _ (by simp [lenρ])⟩, m1.mono ⟨[h1.objs.size, h1.objs.size + 1], by simp⟩⟩ fun ρ3 H3 v v' h3 tk3 q3 x3 S3 m3 => ?_
  · have e : (Code.builtin "type.__call__" ⟨.ref Cl :: as', []⟩).weight = 1 := rfl
    have := hh.aok.deep
    show A.depth + (Code.builtin "type.__call__" ⟨.ref Cl :: as', []⟩).weight + 3 * n < recursionLimit + 1
    rw [e]; exact om424 this
  · have e : (Code.builtin "type.__call__" ⟨.ref Cl :: as', []⟩).cUnits = 1 := rfl
    have := hh.aok.room
    show A.units + (Code.builtin "type.__call__" ⟨.ref Cl :: as', []⟩).cUnits + 20 * n + 200 < cLine + 10
    rw [e]; exact om425 this
  · obtain ⟨rfl, q3⟩ := q3
    refine ⟨m3, ?_⟩
    have xx : Ext ρ1 h1 ρ3 h3 := (A1.2.trans A1.1 A2.2).trans A2.1 x3
    exact C ρ3 H3 _ _ h3 tk3 q3 (x1.trans S1 xx) S3 ⟨_, rfl, pre_get x3.pre (get_at _ (by simp [lenρ]))⟩
end
end Mine
end
section
open PySem PySem.W PySem.Calls PyProof.Rows
open PySem.Sem (wp)
set_option maxHeartbeats 2000000
namespace Mine
section
variable {w : World} {base : Heap} {n : Nat} {Γ : Orc} {A : Around} {env : Env} {nm : NM} {vs : List Str} {loc : Loc} {ρ ρ' : List Addr} {H H' : AH} {s : Shared} {Q : PQ} {Qc : Value → Shared → Prop}
theorem E_attr {o : IE} {a : AN} (ho : ES w base n Γ o) : ES w base n Γ (.attr o a) := fun nm vs x env A loc ρ H s Q Qc hc h hh C => by
  replace hc := isAtt_inv hc
  obtain ⟨x, a', pos, rfl, hc⟩ := hc
  simp only [Bool.and_eq_true, beq_iff_eq] at hc
  obtain ⟨⟨rfl, c2⟩, c3⟩ := hc
  rw [arm_eval_Attribute, attrBase c2]
  refine nBind (ho _ _ _ _ _ _ _ _ _ _ _ c3 h hh fun ρ1 H1 v v' h1 tk1 q1 x1 S1 m1 => ?_)
  refine nBind (nStand (nBind (nHolding (nAny (attrA_sound (s := { s with heap := h1, toks := tk1 }) hh.gb q1 S1 m1 fun ρ2 H2 u u' h2 tk2 q2 x2 S2 m2 => ?_)))))
  exact nBind (nAny (wpAny_letTemporaryGo (nPure (C ρ2 H2 u u' h2 tk2 q2 (x1.trans S1 x2) S2 m2))))
theorem E_idx {o i : IE} (ho : ES w base n Γ o) (hi : ES w base n Γ i) : ES w base n Γ (.idx o i) := fun nm vs x env A loc ρ H s Q Qc hc h hh C => by
  replace hc := isSub_inv hc
  obtain ⟨x, k, pos, rfl, hc⟩ := hc
  simp only [Bool.and_eq_true] at hc
  rw [arm_eval_Subscript]
  refine nBind (ho _ _ _ _ _ _ _ _ _ _ _ hc.1.2 h hh fun ρ1 H1 v v' h1 tk1 q1 x1 S1 m1 => ?_)
  refine nBind (nHolding (hi _ _ _ _ _ _ _ _ _ _ _ hc.2 q1 (hh.step x1 S1) fun ρ2 H2 u u' h2 tk2 q2 x2 S2 m2 => ?_))
  refine nBind (nStand ?_)
  exact nAny (idxA_sound (s := { s with heap := h2, toks := tk2 }) hc.1.1 q2 S2 (m1.mono x2.pre) m2 ((C.step (tk := tk1) x1 S1).step (tk := tk2) x2 S2))
theorem E_slcL {o lo : IE} (ho : ES w base n Γ o) (hl : ES w base n Γ lo) : ES w base n Γ (.slcL o lo) := fun nm vs x env A loc ρ H s Q Qc hc h hh C => by
  replace hc := isSlc2_inv hc
  obtain ⟨x, u, v, q, pos, rfl, hc⟩ := hc
  simp only [Bool.and_eq_true] at hc
  obtain ⟨⟨h1, h2⟩, h3⟩ := hc
  cases noneB_inv h1
  replace h3 := someB_inv h3
  obtain ⟨a, rfl, h3⟩ := h3
  have hc := And.intro h2 h3
  rw [arm_eval_Subscript]
  refine nBind (ho _ _ _ _ _ _ _ _ _ _ _ hc.1 h hh fun ρ1 H1 v v' h1 tk1 q1 x1 S1 m1 => ?_)
  refine nBind (nHolding ?_)
  rw [arm_eval_Slice]
  refine nBind (hl _ _ _ _ _ _ _ _ _ _ _ hc.2 q1 (hh.step x1 S1) fun ρ2 H2 u u' h2 tk2 q2 x2 S2 m2 => ?_)
  refine nBind (nHolding (nPure (nBind (nHolding (nPure ?_)))))
  replace q2 := onInt_inv q2
  obtain ⟨i, rfl, q2⟩ := q2
  obtain ⟨t, rfl⟩ := m2
  exact nMono (slice_sound (s := { s with heap := h2, toks := tk2 }) q2 S2 (m1.mono x2.pre) (.int _ _) .none ((C.step (tk := tk1) x1 S1).step (tk := tk2) x2 S2)) fun i s' z => nBind (nStand z)
theorem E_slcH {o hi : IE} (ho : ES w base n Γ o) (hl : ES w base n Γ hi) : ES w base n Γ (.slcH o hi) := fun nm vs x env A loc ρ H s Q Qc hc h hh C => by
  replace hc := isSlc2_inv hc
  obtain ⟨x, u, v, q, pos, rfl, hc⟩ := hc
  simp only [Bool.and_eq_true] at hc
  obtain ⟨⟨h1, h2⟩, h3⟩ := hc
  cases noneB_inv h1
  replace h3 := someB_inv h3
  obtain ⟨a, rfl, h3⟩ := h3
  have hc := And.intro h2 h3
  rw [arm_eval_Subscript]
  refine nBind (ho _ _ _ _ _ _ _ _ _ _ _ hc.1 h hh fun ρ1 H1 v v' h1 tk1 q1 x1 S1 m1 => ?_)
  refine nBind (nHolding ?_)
  rw [arm_eval_Slice]
  refine nBind (nPure (nBind (nHolding ?_)))
  refine hl _ _ _ _ _ _ _ _ _ _ _ hc.2 q1 (hh.step x1 S1) fun ρ2 H2 u u' h2 tk2 q2 x2 S2 m2 => ?_
  refine nBind (nHolding (nPure ?_))
  replace q2 := onInt_inv q2
  obtain ⟨i, rfl, q2⟩ := q2
  obtain ⟨t, rfl⟩ := m2
  exact nMono (slice_sound (s := { s with heap := h2, toks := tk2 }) q2 S2 (m1.mono x2.pre) .none (.int _ _) ((C.step (tk := tk1) x1 S1).step (tk := tk2) x2 S2)) fun i s' z => nBind (nStand z)
theorem E_slcB {o lo hi : IE} (ho : ES w base n Γ o) (hlo : ES w base n Γ lo) (hhi : ES w base n Γ hi) : ES w base n Γ (.slcB o lo hi) := fun nm vs x env A loc ρ H s Q Qc hc h hh C => by
  replace hc := isSlc2_inv hc
  obtain ⟨x, u, v, q, pos, rfl, hc⟩ := hc
  simp only [Bool.and_eq_true] at hc
  obtain ⟨⟨h1, h2⟩, h3⟩ := hc
  replace h2 := someB_inv h2
  obtain ⟨a, rfl, h2⟩ := h2
  replace h3 := someB_inv h3
  obtain ⟨b, rfl, h3⟩ := h3
  have hc := And.intro (And.intro h1 h2) h3
  rw [arm_eval_Subscript]
  refine nBind (ho _ _ _ _ _ _ _ _ _ _ _ hc.1.1 h hh fun ρ1 H1 v v' h1 tk1 q1 x1 S1 m1 => ?_)
  refine nBind (nHolding ?_)
  rw [arm_eval_Slice]
  refine nBind (hlo _ _ _ _ _ _ _ _ _ _ _ hc.1.2 q1 (hh.step x1 S1) fun ρ2 H2 u u' h2 tk2 q2 x2 S2 m2 => ?_)
  refine nBind (nHolding ?_)
  refine hhi _ _ _ _ _ _ _ _ _ _ _ hc.2 q2 ((hh.step (tk := tk1) x1 S1).step (tk := tk2) x2 S2) fun ρ3 H3 y y' h3 tk3 q3 x3 S3 m3 => ?_
  refine nBind (nHolding (nPure ?_))
  replace q3 := onInt2_inv q3
  obtain ⟨i, j, rfl, rfl, q3⟩ := q3
  obtain ⟨t, rfl⟩ := m2
  obtain ⟨t', rfl⟩ := m3
  exact nMono (slice_sound (s := { s with heap := h3, toks := tk3 }) q3 S3 ((m1.mono x2.pre).mono x3.pre) (.int _ _) (.int _ _) (((C.step (tk := tk1) x1 S1).step (tk := tk2) x2 S2).step (tk := tk3) x3 S3)) fun i s' z => nBind (nStand z)
theorem E_list {l : IEs} (hl : LS w base n Γ l) : ES w base n Γ (.list l) := fun nm vs x env A loc ρ H s Q Qc hc h hh C => by
  replace hc := isLst_inv hc
  obtain ⟨es, pos, rfl, hc⟩ := hc
  rw [arm_eval_List]
  refine nBind (nStand (nBind (hl _ _ _ _ _ _ _ _ _ _ _ _ hc h hh fun ρ1 H1 as as' h1 tk1 q1 x1 S1 m1 => ?_)))
  exact newList_sound (s := { s with heap := h1, toks := tk1 }) q1.1 q1.2 S1 m1 (C.step x1 S1)
theorem E_tup {l : IEs} (hl : LS w base n Γ l) : ES w base n Γ (.tup l) := fun nm vs x env A loc ρ H s Q Qc hc h hh C => by
  replace hc := isTup_inv hc
  obtain ⟨es, c, pos, rfl, hc⟩ := hc
  rw [arm_eval_Tuple]
  refine nBind (nStand (nBind (hl _ _ _ _ _ _ _ _ _ _ _ _ hc h hh fun ρ1 H1 as as' h1 tk1 q1 x1 S1 m1 => ?_)))
  exact newTuple_sound (s := { s with heap := h1, toks := tk1 }) q1.1.1 q1.2 S1 m1 (C.step x1 S1)
theorem E_um {nme : Nat} {o : IE} {args : IEs} (hO : OrcOk w base n Γ) (ho : ES w base n Γ o) (hl : LS w base n Γ args) : ES w base n Γ (.um nme o args) := fun nm vs x env A loc ρ H s Q Qc hc h hh C => by
  replace hc := isMet_inv hc
  obtain ⟨x, nn, p, es, pos, rfl, hc⟩ := hc
  simp only [Bool.and_eq_true, beq_iff_eq, decide_eq_true_eq] at hc
  obtain ⟨⟨⟨⟨⟨c1, c2⟩, c3⟩, c4⟩, c5⟩, c6⟩ := hc
  refine nMethod c2 (by simpa using c3) (ck_plain c5) c6 (ho _ _ _ _ _ _ _ _ _ _ _ c4 h hh fun ρ1 H1 v v' h1 tk1 q1 x1 S1 m1 => ?_)
  cases v <;> first | exact False.elim q1 | skip
  obtain ⟨Cl, d, fs, f, e1, e2, hm, q1⟩ := q1
  obtain ⟨_, _, _, hfn⟩ := um_find (P := w.params) c1 hm
  refine nAny (recv_um (s := { s with heap := h1, toks := tk1 }) hh.gb c1 hm S1 m1 e1 e2 fun xa ex => ?_)
  subst ex
  refine nCallWith (P := fun h => (K w.params).In h) (ck_plain c5) (fun h X => fn_look hfn h X) ?_
  refine hl _ _ _ _ _ _ _ _ _ _ _ _ c5 q1 (hh.step x1 S1) fun ρ2 H2 as as' h2 tk2 q2 x2 S2 m2 => ⟨St.K (s := { s with heap := h2, toks := tk2 }) S2 hh.gb, ?_⟩
  exact hO A hh.aok.c _ _ _ _ _ { s with heap := h2, toks := tk2 } _ _ q2 S2 ⟨_, _, rfl, m1.mono x2.pre, m2⟩ ((C.step (tk := tk1) x1 S1).step (tk := tk2) x2 S2)
end
end Mine
end
section
open PySem PySem.W PySem.Calls PyProof.Rows
open PySem.Sem (wp)
set_option maxHeartbeats 2000000
namespace Mine
section
variable {w : World} {base : Heap} {n : Nat} {Γ : Orc} {A : Around} {env : Env} {nm : NM} {vs : List Str} {loc : Loc} {ρ ρ' : List Addr} {H H' : AH} {s : Shared} {Q : PQ} {Qc : Value → Shared → Prop}
theorem E_meth {m : MI} {o : IE} {args : IEs} (ho : ES w base n Γ o) (hl : LS w base n Γ args) : ES w base n Γ (.meth m o args) := fun nm vs x env A loc ρ H s Q Qc hc h hh C => by
  replace hc := isMet_inv hc
  obtain ⟨x, nn, p, es, pos, rfl, hc⟩ := hc
  simp only [Bool.and_eq_true, beq_iff_eq, decide_eq_true_eq] at hc
  obtain ⟨⟨⟨⟨⟨c1, c2⟩, c3⟩, c4⟩, c5⟩, c6⟩ := hc
  subst c1
  refine nMethod c2 (by simpa using c3) (ck_plain c5) c6 (ho _ _ _ _ _ _ _ _ _ _ _ c4 h hh fun ρ1 H1 v v' h1 tk1 q1 x1 S1 m1 => ?_)
  refine nAny (meth_recv (s₁ := { s with heap := h1, toks := tk1 }) (h₁ := h1) (as := []) (E := fun _ _ => True) S1 m1 q1.1 ?_)
  refine nCallWith (P := fun _ => True) (ck_plain c5) (fun h _ => look_builtin h _) ?_
  refine hl _ _ _ _ _ _ _ _ _ _ _ _ c5 q1.2 (hh.step x1 S1) fun ρ2 H2 as as' h2 tk2 q2 x2 S2 m2 => ⟨trivial, ?_⟩
  exact methN_sound (s := { s with heap := h2, toks := tk2 }) q2 S2 (m1.mono x2.pre) m2 ((C.step (tk := tk1) x1 S1).step (tk := tk2) x2 S2)
theorem toB_str : toBytesStr = PySem.Str.ofString "to_bytes" := by kernel_rfl
theorem E_toB {o k : IE} (ho : ES w base n Γ o) (hk : ES w base n Γ k) : ES w base n Γ (.toB o k) := fun nm vs x env A loc ρ H s Q Qc hc h hh C => by
  replace hc := isMet_inv hc
  obtain ⟨x, nn, p, es, pos, rfl, hc⟩ := hc
  simp only [Bool.and_eq_true, beq_iff_eq, decide_eq_true_eq] at hc
  obtain ⟨⟨⟨⟨c1, c3⟩, c5⟩, c6⟩, hc⟩ := hc
  replace hc := twoB_inv hc
  obtain ⟨e, b, rfl, hc⟩ := hc
  simp only [Bool.and_eq_true] at hc
  obtain ⟨⟨c2, c4⟩, c7⟩ := hc
  replace c2 := isCst_inv c2
  obtain ⟨cc, kk, cp, rfl, c2⟩ := c2
  cases cstS_inv c2
  subst c1
  refine nMethod c3 (by simpa using c5) (by rw [star_cons c4]; rfl) (by simp) (ho _ _ _ _ _ _ _ _ _ _ _ c6 h hh fun ρ1 H1 v v' h1 tk1 q1 x1 S1 m1 => ?_)
  cases v <;> first | exact False.elim q1 | skip
  obtain ⟨t, rfl⟩ := m1
  rw [toB_str]
  refine nAny (KTBy.method ?_)
  refine nCallWith (P := fun _ => True) (by rw [star_cons c4]; rfl) (fun h _ => look_builtin h _) ?_
  rw [star_cons c4]
  refine splice_cons (hk _ _ _ _ _ _ _ _ _ _ _ c7 q1 (hh.step x1 S1) fun ρ2 H2 u u' h2 tk2 q2 x2 S2 m2 => ?_)
  obtain ⟨rfl, ⟨i0, i1⟩, q2⟩ := q2
  obtain ⟨t', rfl⟩ := m2
  refine splice_cons ?_
  refine nAny (wpAny_mkText (x := bigStr) (splice_nil ⟨trivial, ?_⟩))
  exact toB_sound (ρ := ρ2) (H := H2) (s := { s with heap := h2, toks := tk2 + 1 }) i0 i1 S2 q2 (((C.step (tk := tk1) x1 S1).step (tk := tk2) x2 S2).toks (tk2 + 1))
theorem range_items (k : Int) (h0 : 0 ≤ k) : (List.range k.toNat).map (fun (i : Nat) => AV.int ((0 : Int) + (i : Int) * 1)) = (List.range k.toNat).map fun (i : Nat) => AV.int i := by
  refine List.map_congr_left fun i _ => ?_
  simp
theorem none_of_size {h g : Heap} {a : Addr} (ha : h.objs.size ≤ a) (k : ∀ b o, g.get? b = some o → h.get? b = some o) : g.get? a = none := by
  cases q : g.get? a with
  | none => rfl
  | some o => exact absurd (Heap.lt_size (k _ _ q)) (Nat.not_lt.mpr ha)
theorem E_compR {caps : List Nat} {elt k : IE} (he : ES w base n Γ elt) (hk : ES w base n Γ k) : ES w base n Γ (.compR caps elt k) := fun nm vs x env A loc ρ H s Q Qc hc h hh C => by
  replace hc := isCmpr_inv hc
  obtain ⟨y, x, px, it, sc, pos, rfl, hc⟩ := hc
  replace hc := isFun_inv hc
  obtain ⟨rg, p2, es, cpos, rfl, hc⟩ := hc
  replace hc := one_inv hc
  obtain ⟨k', rfl, hc⟩ := hc
  simp only [Bool.and_eq_true, beq_iff_eq] at hc
  obtain ⟨⟨⟨⟨⟨c1, c2⟩, c3⟩, c4⟩, c5⟩, c6⟩ := hc
  subst c2
  have cc := c5
  unfold compOk at c5
  simp only [Bool.and_eq_true, beq_iff_eq, decide_eq_true_eq] at c5
  obtain ⟨⟨⟨⟨⟨⟨d1, d2⟩, d3⟩, d4⟩, d5⟩, d6⟩, d7⟩ := c5
  obtain ⟨cl, k1, k2, k3⟩ := closureFor_some (scope := sc) (env := env) fun p hp hf => by
    have := List.all_eq_true.mp d6 p hp
    rw [hf] at this
    have : nm.lookup p.1 = some .cell := by simpa using this
    exact hh.frm.cel _ this
  obtain ⟨mg, mb, g1, g2, gi, gf, gc, gb, gr, gr2⟩ := hh.gb.ns
  rw [arm_eval_ListComp]
  show wpN _ _ (comprehension _ sc env _ (newList []) false (eval (.Call (.Name _ _) [_] [] _) env) none) _ _
  refine nComp rfl (fun _ => rfl) k1 d1 (fun z hz e => lookup_of_mem d7 (by rw [← e]; exact hz)) ?_
  rw [arm_eval_Call_Name']
  refine nBind (nAny (globB c1 hh g1 g2 gr gr2 ?_))
  refine nCallWith (P := fun _ => True) (by rw [star_cons c3]; rfl) (fun h _ => look_type h _) ?_
  rw [star_cons c3]
  refine splice_cons (hk _ _ _ _ _ _ _ _ _ _ _ c4 h hh fun ρ1 H1 v v' h1 tk1 q1 x1 S1 m1 => splice_nil ⟨trivial, ?_⟩)
  cases v <;> first | exact False.elim q1 | skip
  rename_i kv
  obtain ⟨t, rfl⟩ := m1
  obtain ⟨⟨z0, z1⟩, hw⟩ := q1
  refine nAny (call_range_1 ?_)
  refine nAny (wpAny_pyIter_range (IsRange.new ..) (small_one (by omega) (by omega) (by omega) (by omega)) ?_)
  have rs : Builtin.Range.rangeSize 0 kv 1 = (kv.toNat : Int) := by rw [rangeSize_one]; split <;> omega
  rw [rs]
  dsimp only
  have sz : (h1.push { cls := .type "range", data := .fields #[.int 0 tk1, .int kv t, .int 1 (tk1 + 1)] }).objs.size = h1.objs.size + 1 := Heap.size_push _ _
  rw [sz]
  have kp : ∀ b o, h1.get? b = some o → ((h1.push { cls := .type "range", data := .fields #[.int 0 tk1, .int kv t, .int 1 (tk1 + 1)] }).push { cls := .type "range_iterator", data := .fields #[rawInt 0, rawInt (kv.toNat : Int), rawInt 1] }).get? b = some o := fun b o e => Heap.get?_push_of_some _ (Heap.get?_push_of_some _ e)
  have hh1 : Here w base n A env nm vs loc ρ1 H1 { s with heap := (h1.push { cls := .type "range", data := .fields #[.int 0 tk1, .int kv t, .int 1 (tk1 + 1)] }).push { cls := .type "range_iterator", data := .fields #[rawInt 0, rawInt (kv.toNat : Int), rawInt 1] }, toks := tk1 + 1 + 1 } :=
    (hh.step (tk := tk1) x1 S1).step (Ext.grown kp) (S1.grown kp)
  have git : ((h1.push { cls := .type "range", data := .fields #[.int 0 tk1, .int kv t, .int 1 (tk1 + 1)] }).push { cls := .type "range_iterator", data := .fields #[rawInt 0, rawInt (kv.toNat : Int), rawInt 1] }).get? (h1.objs.size + 1) = some { cls := .type "range_iterator", data := .fields #[rawInt 0, rawInt (kv.toNat : Int), rawInt 1] } := by
    have := Heap.get?_push_size (h1.push { cls := .type "range", data := .fields #[.int 0 tk1, .int kv t, .int 1 (tk1 + 1)] }) (o := { cls := .type "range_iterator", data := .fields #[rawInt 0, rawInt (kv.toNat : Int), rawInt 1] }) rfl
    rw [sz] at this; exact this
  rw [← range_items kv z0] at hw
  refine comp_tail (h₀ := h1) he cc c6 hh1 (walk_range (a := 0) (st := 1) (N := kv.toNat)) ⟨Nat.zero_le _, by unfold IsRangeIter; simpa using git⟩ ⟨fun hm => ?_, none_of_size (Nat.le_succ _) S1.keep, none_of_size (Nat.le_succ _) fun _ _ e => e⟩ (fun z c e => ?_) kp (by simp; exact om426 z1) k2 k3 hw fun ρ' H' ys a h' tk q x S len => ?_
  · obtain ⟨o, e⟩ := S1.alive hm
    exact Nat.not_succ_lt_self (Heap.lt_size e)
  · obtain ⟨⟨v, o, eo, d⟩, _, _⟩ := (hh.lr.ext x1).cell z c e
    exact ne2 (Heap.lt_size eo)
  · exact C (ρ' ++ [a]) (H' ++ [.list ys]) (.ref H'.length) (.ref a) h' tk q (x1.trans S1 x) S ⟨a, rfl, get_at a len⟩
theorem E_compL {caps : List Nat} {elt src : IE} (he : ES w base n Γ elt) (hs : ES w base n Γ src) : ES w base n Γ (.compL caps elt src) := fun nm vs x env A loc ρ H s Q Qc hc h hh C => by
  replace hc := isCmpr_inv hc
  obtain ⟨y, x, p, it, sc, pos, rfl, hc⟩ := hc
  simp only [Bool.and_eq_true] at hc
  obtain ⟨⟨⟨c1, c2⟩, c3⟩, c4⟩ := hc
  have cc := c3
  unfold compOk at c3
  simp only [Bool.and_eq_true, beq_iff_eq, decide_eq_true_eq] at c3
  obtain ⟨⟨⟨⟨⟨⟨d1, d2⟩, d3⟩, d4⟩, d5⟩, d6⟩, d7⟩ := c3
  obtain ⟨cl, k1, k2, k3⟩ := closureFor_some (scope := sc) (env := env) fun p hp hf => by
    have := List.all_eq_true.mp d6 p hp
    rw [hf] at this
    have : nm.lookup p.1 = some .cell := by simpa using this
    exact hh.frm.cel _ this
  rw [arm_eval_ListComp]
  show wpN _ _ (comprehension _ sc env _ (newList []) false (eval it env) none) _ _
  refine nComp rfl (notSet_iter c1) k1 d1 (fun z hz e => lookup_of_mem d7 (by rw [← e]; exact hz)) ?_
  refine hs _ _ _ _ _ _ _ _ _ _ _ c2 h hh fun ρ1 H1 v v' h1 tk1 q1 x1 S1 m1 => ?_
  cases v <;> first | exact False.elim q1 | skip
  rename_i r
  obtain ⟨us, e1, hz, hw⟩ := q1
  obtain ⟨l, its, c, rfl, hl, g1, ml⟩ := St.list (s := { s with heap := h1, toks := tk1 }) S1 m1 e1
  refine nAny (wpAny_pyIter_list (isList_of g1) ?_)
  have hh1 : Here w base n A env nm vs loc ρ1 H1 { s with heap := h1.push { cls := .type "list_iterator", data := .fields #[.ref l, .int 0 0] }, toks := tk1 } :=
    (hh.step (tk := tk1) x1 S1).step (Ext.grown fun b o e => Heap.get?_push_of_some _ e) (S1.grown fun b o e => Heap.get?_push_of_some _ e)
  refine comp_tail (h₀ := h1) he cc c4 hh1 (walk_list (r := r) (vs := us) hl) ⟨_, Heap.get?_push_size _ rfl, rfl, rfl⟩ ⟨?_, ?_, push_free _⟩ (fun z c e => ?_) (fun b o e => Heap.get?_push_of_some _ e) (om427 hz) k2 k3 hw fun ρ' H' ys a h' tk q x S len => ?_
  · intro hm
    obtain ⟨o, e⟩ := S1.alive hm
    exact Nat.lt_irrefl _ (Heap.lt_size e)
  · cases q : base.get? h1.objs.size with
    | none => rfl
    | some o => exact absurd (Heap.lt_size (S1.keep _ _ q)) (Nat.lt_irrefl _)
  · obtain ⟨⟨v, o, eo, d⟩, _, _⟩ := (hh.lr.ext x1).cell z c e
    exact Nat.ne_of_lt (Heap.lt_size eo)
  · exact C (ρ' ++ [a]) (H' ++ [.list ys]) (.ref H'.length) (.ref a) h' tk q (x1.trans S1 x) S ⟨a, rfl, get_at a len⟩
end
end Mine
end
section
open PySem PySem.W PySem.Calls PyProof.Rows
open PySem.Sem (wp)
set_option maxHeartbeats 2000000
namespace Mine
section
variable {w : World} {base : Heap} {n : Nat} {Γ : Orc}
theorem T_false {e : IE} (h : ∀ loc H Q, ¬ WT Γ e loc H Q) : TS w base n Γ e := fun nm vs x env A loc ρ H s Q Qc hc hw hh C => (h _ _ _ hw).elim
mutual
theorem soundE (hO : OrcOk w base n Γ) : ∀ e : IE, ES w base n Γ e ∧ TS w base n Γ e
  | .none => ⟨E_none, T_false fun _ _ _ h => h⟩
  | .bool b => ⟨E_bool, T_bool⟩
  | .int i => ⟨E_int, T_false fun _ _ _ h => h⟩
  | .byt b => ⟨E_byt, T_false fun _ _ _ h => h⟩
  | .var x => ⟨E_var, T_var⟩
  | .glob i => ⟨E_glob, T_false fun _ _ _ h => h⟩
  | .bin op a b => ⟨E_bin (soundE hO a).1 (soundE hO b).1, T_false fun _ _ _ h => h⟩
  | .neg a => ⟨E_neg (soundE hO a).1, T_false fun _ _ _ h => h⟩
  | .unot a => ⟨fun nm vs x env A loc ρ H s Q Qc hc hw hh C => hw.elim, T_not (soundE hO a).2⟩
  | .ands l => ⟨E_ands (soundL hO l).2.1, T_ands (soundL hO l).2.2.2.1⟩
  | .ors l => ⟨E_ors (soundL hO l).2.2.1, T_ors (soundL hO l).2.2.2.2⟩
  | .cmp op a b => ⟨E_cmp (soundE hO a).1 (soundE hO b).1, T_cmp (soundE hO a).1 (soundE hO b).1⟩
  | .ite t a b => ⟨E_ite (soundE hO t).2 (soundE hO a).1 (soundE hO b).1, T_false fun _ _ _ h => h⟩
  | .call f l => ⟨E_call hO (soundL hO l).1, T_call hO (soundL hO l).1⟩
  | .new C l => ⟨E_new hO (soundL hO l).1, T_false fun _ _ _ h => h⟩
  | .bi b l => ⟨E_bi (soundL hO l).1, T_false fun _ _ _ h => h⟩
  | .meth m o l => ⟨E_meth (soundE hO o).1 (soundL hO l).1, T_false fun _ _ _ h => h⟩
  | .toB o k => ⟨E_toB (soundE hO o).1 (soundE hO k).1, T_false fun _ _ _ h => h⟩
  | .um k o l => ⟨E_um hO (soundE hO o).1 (soundL hO l).1, T_false fun _ _ _ h => h⟩
  | .attr o k => ⟨E_attr (soundE hO o).1, T_false fun _ _ _ h => h⟩
  | .idx o i => ⟨E_idx (soundE hO o).1 (soundE hO i).1, T_false fun _ _ _ h => h⟩
  | .slcL o i => ⟨E_slcL (soundE hO o).1 (soundE hO i).1, T_false fun _ _ _ h => h⟩
  | .slcH o i => ⟨E_slcH (soundE hO o).1 (soundE hO i).1, T_false fun _ _ _ h => h⟩
  | .slcB o i j => ⟨E_slcB (soundE hO o).1 (soundE hO i).1 (soundE hO j).1, T_false fun _ _ _ h => h⟩
  | .list l => ⟨E_list (soundL hO l).1, T_false fun _ _ _ h => h⟩
  | .tup l => ⟨E_tup (soundL hO l).1, T_false fun _ _ _ h => h⟩
  | .compR c a b => ⟨E_compR (soundE hO a).1 (soundE hO b).1, T_false fun _ _ _ h => h⟩
  | .compL c a b => ⟨E_compL (soundE hO a).1 (soundE hO b).1, T_false fun _ _ _ h => h⟩
theorem soundL (hO : OrcOk w base n Γ) : ∀ l : IEs, LS w base n Γ l ∧ AndS w base n Γ l ∧ OrS w base n Γ l ∧ TsS w base n Γ l ∧ ToS w base n Γ l
  | .nil => ⟨L_nil, And_nil, Or_nil, Ts_nil, To_nil⟩
  | .cons e r => ⟨L_cons (soundE hO e).1 (soundL hO r).1, And_cons (soundE hO e).1 (soundL hO r).2.1, Or_cons (soundE hO e).1 (soundL hO r).2.2.1, Ts_cons (soundE hO e).2 (soundL hO r).2.2.2.1, To_cons (soundE hO e).2 (soundL hO r).2.2.2.2⟩
end
end
end Mine
end
section
open PySem PySem.W PySem.Calls PyProof.Rows
open PySem.Sem (wp)
set_option maxHeartbeats 2000000
namespace Mine
structure ExtF (env : Env) (ρ : List Addr) (h : Heap) (ρ' : List Addr) (h' : Heap) : Prop where
  grow : ∃ new, ρ' = ρ ++ new ∧ ∀ a ∈ new, h.get? a = none
  keep : ∀ b o, h.get? b = some o → b ∉ ρ → b ≠ env.locals → (∀ x, env.cells.lookup x ≠ some b) → h'.get? b = some o
noncomputable def FlM (ρ : List Addr) : Fl → Flow → Prop
  | .next, f => f = .next
  | .ret v, f => ∃ v', f = .ret v' ∧ VM ρ v v'
noncomputable def ContS (base : Heap) (env : Env) (vs : List Str) (ρ : List Addr) (s : Shared) (QS : SQ) (Qf : Flow → Shared → Prop) : Prop :=
  ∀ fl loc' ρ' H' fl' h' tk, QS fl loc' H' → ExtF env ρ s.heap ρ' h' → LR env vs loc' ρ' h' → St base ρ' H' h' → FlM ρ' fl fl' → Qf fl' { s with heap := h', toks := tk }
noncomputable def SS (w : World) (base : Heap) (n : Nat) (Γ : Orc) (st : IS) : Prop := ∀ nm vs x env A loc ρ H s (QS : SQ) (Qf : Flow → Shared → Prop), ckS nm vs st x = true → WS Γ st loc H QS → Here w base n A env nm vs loc ρ H s → ContS base env vs ρ s QS Qf → wpN (M w) A (exec x env) Qf s
noncomputable def SSs (w : World) (base : Heap) (n : Nat) (Γ : Orc) (st : ISs) : Prop := ∀ nm vs x env A loc ρ H s (QS : SQ) (Qf : Flow → Shared → Prop), ckSs nm vs st x = true → WSs Γ st loc H QS → Here w base n A env nm vs loc ρ H s → ContS base env vs ρ s QS Qf → wpN (M w) A (execs x env) Qf s
theorem Ext.toF {env : Env} {ρ ρ' : List Addr} {h h' : Heap} (x : Ext ρ h ρ' h') : ExtF env ρ h ρ' h' := ⟨x.grow, fun b o e hb _ _ => x.keep b o e hb⟩
theorem ExtF.pre {env : Env} {ρ ρ' : List Addr} {h h' : Heap} (x : ExtF env ρ h ρ' h') : ρ <+: ρ' := let ⟨n, e, _⟩ := x.grow; ⟨n, e.symm⟩
theorem ExtF.off {env : Env} {ρ ρ' : List Addr} {h h' : Heap} (x : ExtF env ρ h ρ' h') {b : Addr} {o : Obj} (e : h.get? b = some o) (hb : b ∉ ρ) : b ∉ ρ' := by
  obtain ⟨new, rfl, hn⟩ := x.grow
  intro hm
  rcases List.mem_append.mp hm with hm | hm
  · exact hb hm
  · rw [hn b hm] at e; cases e
theorem ExtF.trans {base : Heap} {env : Env} {vs : List Str} {loc' : Loc} {ρ ρ' ρ'' : List Addr} {h h' h'' : Heap} {H' : AH} (x : ExtF env ρ h ρ' h') (S : St base ρ' H' h') (F : LR env vs loc' ρ' h') (y : ExtF env ρ' h' ρ'' h'') : ExtF env ρ h ρ'' h'' := by
  obtain ⟨n1, e1, f1⟩ := x.grow
  obtain ⟨n2, e2, f2⟩ := y.grow
  refine ⟨⟨n1 ++ n2, by rw [e2, e1, List.append_assoc], fun a ha => ?_⟩, fun b o e hb hl hc => y.keep b o (x.keep b o e hb hl hc) (x.off e hb) hl hc⟩
  rcases List.mem_append.mp ha with ha | ha
  · exact f1 a ha
  · cases q : h.get? a with
    | none => rfl
    | some o =>
      exfalso
      have z := f2 a ha
      by_cases hm : a ∈ ρ
      · obtain ⟨o', e'⟩ := S.alive (x.pre.subset hm)
        rw [z] at e'; cases e'
      · by_cases hl : a = env.locals
        · subst hl
          obtain ⟨m, ⟨o', _, _, e', _⟩, _⟩ := F.ns
          rw [z] at e'; cases e'
        · by_cases hc : ∃ x, env.cells.lookup x = some a
          · obtain ⟨x', hx'⟩ := hc
            obtain ⟨⟨v, o', e', _⟩, _⟩ := F.cell x' a hx'
            rw [z] at e'; cases e'
          · have := x.keep a o q hm hl fun x' hx' => hc ⟨x', hx'⟩
            rw [z] at this; cases this
section
variable {w : World} {base : Heap} {n : Nat} {Γ : Orc} {A : Around} {env : Env} {nm : NM} {vs : List Str} {loc loc' : Loc} {ρ ρ' : List Addr} {H H' : AH} {s : Shared} {QS : SQ} {Qf : Flow → Shared → Prop} {h' : Heap} {tk : Nat}
theorem ContS.step (C : ContS base env vs ρ s QS Qf) (x : ExtF env ρ s.heap ρ' h') (S : St base ρ' H' h') (F : LR env vs loc' ρ' h') : ContS base env vs ρ' { s with heap := h', toks := tk } QS Qf :=
  fun fl l2 ρ2 H2 fl' h2 tk2 q y F2 S2 m => C fl l2 ρ2 H2 fl' h2 tk2 q (x.trans S F y) F2 S2 m
theorem Here.stepF (h : Here w base n A env nm vs loc ρ H s) (S : St base ρ' H' h') (F : LR env vs loc' ρ' h') : Here w base n A env nm vs loc' ρ' H' { s with heap := h', toks := tk } := ⟨h.gb, h.aok, h.frm, F, S⟩
/-- a name stored -/
theorem store_sound {i : Nat} {x : Str} {v : AV} {v' : Value} {Qu : Unit → Shared → Prop} {E : Value → Shared → Prop} {M : Model} (h : Here w base n A env nm vs loc ρ H s) (hx : vs[i]? = some x) (hv : VM ρ v v')
    (k : ∀ h' tk, ExtF env ρ s.heap ρ h' → LR env vs (loc.set i (some v)) ρ h' → St base ρ H h' → Qu () { s with heap := h', toks := tk }) : wpAny M A (bindName env x v') Qu E s :=
  wpAny_bindName (h.lr.store h.st hx h.frm.off hv fun h' tk F S kp => k h' tk ⟨⟨[], by simp, by simp⟩, fun b o e _ hl hc => kp b o e hl hc⟩ F S)
theorem nRelease {a b : List Value} {Q : Unit → Shared → Prop} (h : Q () s) : wpN (M w) A (release a b) Q s := fun Γ p hΓ hN => by
  rw [Sem.wp_release]; exact h
theorem S_nil : SSs w base n Γ .nil := fun nm vs x env A loc ρ H s QS Qf hc h hh C => by
  cases nilB_inv (l := x) hc
  exact nPure (C .next loc ρ H .next s.heap s.toks h (Ext.refl ..).toF hh.lr hh.st rfl)
theorem S_cons {st : IS} {r : ISs} (h1 : SS w base n Γ st) (h2 : SSs w base n Γ r) : SSs w base n Γ (.cons st r) := fun nm vs x env A loc ρ H s QS Qf hc h hh C => by
  replace hc := consB_inv (l := x) hc
  obtain ⟨y, ys, rfl, hc⟩ := hc
  · simp only [Bool.and_eq_true] at hc
    rw [execs_cons]
    refine nBind (h1 _ _ _ _ _ _ _ _ _ _ _ hc.1 h hh fun fl l1 ρ1 H1 fl' hp1 tk1 q x1 F1 S1 m => ?_)
    cases fl with
    | next => cases m; exact h2 _ _ _ _ _ _ _ _ _ _ _ hc.2 q (hh.stepF S1 F1) (C.step x1 S1 F1)
    | ret v =>
      obtain ⟨v', rfl, mv⟩ := m
      exact nPure (C (.ret v) l1 ρ1 H1 _ hp1 tk1 q x1 F1 S1 ⟨v', rfl, mv⟩)
theorem S_assign {i : Nat} {e : IE} (he : ES w base n Γ e) : SS w base n Γ (.assign i e) := fun nm vs x env A loc ρ H s QS Qf hc h hh C => by
  replace hc := isAsg_inv hc
  obtain ⟨ts, y, pos, rfl, hc⟩ := hc
  replace hc := one_inv hc
  obtain ⟨tt, rfl, hc⟩ := hc
  replace hc := isNam_inv hc
  obtain ⟨id, p, rfl, hc⟩ := hc
  simp only [Bool.and_eq_true, beq_iff_eq] at hc
  have hs : swapsWith y (some (.Name id p)) pos.line env = pure false := by
    cases y <;> first | rfl | (exact absurd hc.1.2 Bool.false_ne_true)
  rw [exec_Assign_Name env id p y pos hs]
  refine nBind (nStand (nBind (he _ _ _ _ _ _ _ _ _ _ _ hc.2 h hh fun ρ1 H1 v v' h1 tk1 q1 x1 S1 m1 => nBind (nStand (nBind (nAny (store_sound (hh.step (tk := tk1) x1 S1) hc.1.1 m1 fun h2 tk2 x2 F2 S2 => ?_)))))))
  exact nPure (C .next _ ρ1 H1 .next h2 tk2 q1 (x1.toF.trans S1 (hh.lr.ext x1) x2) F2 S2 rfl)
theorem S_expr {e : IE} (he : ES w base n Γ e) : SS w base n Γ (.expr e) := fun nm vs x env A loc ρ H s QS Qf hc h hh C => by
  replace hc := isExp_inv hc
  obtain ⟨y, pos, rfl, hc⟩ := hc
  simp only [Bool.and_eq_true] at hc
  have hs : swapsWith y none pos.line env = pure false := by
    cases y <;> first | rfl | (exact absurd hc.1 Bool.false_ne_true)
  have hi : interactive env = false := by unfold interactive; rw [hh.lr.kind]; rfl
  rw [exec_Expr env y pos hi hs]
  refine nBind (nStand (nBind (he _ _ _ _ _ _ _ _ _ _ _ hc.2 h hh fun ρ1 H1 v v' h1 tk1 q1 x1 S1 m1 => ?_)))
  rw [dropValue_plain (fun a e => by
    subst e
    obtain ⟨p, _⟩ := q1
    cases v <;> first | exact p | (cases m1; done) | (obtain ⟨t, e⟩ := m1; cases e))]
  exact nPure (C .next _ ρ1 H1 .next h1 tk1 q1.2 x1.toF (hh.lr.ext x1) S1 rfl)
theorem S_ret {e : IE} (he : ES w base n Γ e) : SS w base n Γ (.ret e) := fun nm vs x env A loc ρ H s QS Qf hc h hh C => by
  replace hc := isRet_inv hc
  obtain ⟨y, pos, rfl, hc⟩ := hc
  replace hc := someB_inv hc
  obtain ⟨y, rfl, hc⟩ := hc
  rw [exec_Return_some]
  refine nBind (nStand (nBind (he _ _ _ _ _ _ _ _ _ _ _ hc h hh fun ρ1 H1 v v' h1 tk1 q1 x1 S1 m1 => ?_)))
  exact nPure (C (.ret v) _ ρ1 H1 _ h1 tk1 q1 x1.toF (hh.lr.ext x1) S1 ⟨v', rfl, m1⟩)
theorem S_ifs {t : IE} {a b : ISs} (ht : TS w base n Γ t) (ha : SSs w base n Γ a) (hb : SSs w base n Γ b) : SS w base n Γ (.ifs t a b) := fun nm vs x env A loc ρ H s QS Qf hc h hh C => by
  replace hc := isIf_inv hc
  obtain ⟨x, p, q, pos, rfl, hc⟩ := hc
  simp only [Bool.and_eq_true] at hc
  rw [exec_If]
  refine nBind (nStand (nBind (ht _ _ _ _ _ _ _ _ _ _ _ hc.1.1 h hh fun ρ1 H1 c h1 tk1 q1 x1 S1 => ?_)))
  cases c with
  | true => exact ha _ _ _ _ _ _ _ _ _ _ _ hc.1.2 q1 (hh.step x1 S1) (C.step x1.toF S1 (hh.lr.ext x1))
  | false => exact hb _ _ _ _ _ _ _ _ _ _ _ hc.2 q1 (hh.step x1 S1) (C.step x1.toF S1 (hh.lr.ext x1))
theorem S_setAttr {o e : IE} {a : AN} (ho : ES w base n Γ o) (he : ES w base n Γ e) : SS w base n Γ (.setAttr o a e) := fun nm vs x env A loc ρ H s QS Qf hc h hh C => by
  replace hc := isAsg_inv hc
  obtain ⟨ts, y, pos, rfl, hc⟩ := hc
  replace hc := one_inv hc
  obtain ⟨tt, rfl, hc⟩ := hc
  replace hc := isAtt_inv hc
  obtain ⟨x, a', p, rfl, hc⟩ := hc
  simp only [Bool.and_eq_true, beq_iff_eq] at hc
  obtain ⟨⟨⟨rfl, c2⟩, c3⟩, c4⟩ := hc
  have hs : swapsWithSole [.Attribute x a.str p] y pos.line env = pure false := by
    cases y <;> first | rfl | (exact absurd c2 Bool.false_ne_true)
  rw [arm_exec_Assign, hs]
  refine nBind (nStand (nBind (nPure (nBind (he _ _ _ _ _ _ _ _ _ _ _ c4 h hh fun ρ1 H1 v v' h1 tk1 q1 x1 S1 m1 => ?_)))))
  refine nBind (nOf_eq (a := none) rfl ?_)
  show wpN _ _ (assign (Expr.Attribute x a.str p) env v' >>= fun _ => pure Flow.next) _ _
  rw [arm_assign_Attribute]
  refine nBind (nBind (nHolding (ho _ _ _ _ _ _ _ _ _ _ _ c3 q1 (hh.step x1 S1) fun ρ2 H2 u u' h2 tk2 q2 x2 S2 m2 => ?_)))
  refine nBind (nStand (nBind (nHolding (nAny (setAttrA_sound (s := { s with heap := h2, toks := tk2 }) hh.gb q2 S2 m2 (m1.mono x2.pre) fun H3 h3 tk3 q3 x3 S3 => ?_)))))
  have xx : Ext ρ s.heap ρ2 h3 := (x1.trans S1 x2).trans S2 x3
  exact nRelease (nPure (C .next _ ρ2 H3 .next h3 tk3 q3 xx.toF (hh.lr.ext xx) S3 rfl))
theorem S_setItem {o i e : IE} (ho : ES w base n Γ o) (hi : ES w base n Γ i) (he : ES w base n Γ e) : SS w base n Γ (.setItem o i e) := fun nm vs x env A loc ρ H s QS Qf hc h hh C => by
  replace hc := isAsg_inv hc
  obtain ⟨ts, y, pos, rfl, hc⟩ := hc
  replace hc := one_inv hc
  obtain ⟨tt, rfl, hc⟩ := hc
  replace hc := isSub_inv hc
  obtain ⟨x, k, p, rfl, hc⟩ := hc
  simp only [Bool.and_eq_true, beq_iff_eq] at hc
  obtain ⟨⟨⟨⟨c1, c2⟩, c3⟩, c4⟩, c5⟩ := hc
  have hs : swapsWithSole [.Subscript x k p] y pos.line env = pure false := by
    cases y <;> first | rfl | (exact absurd c2 Bool.false_ne_true)
  rw [arm_exec_Assign, hs]
  refine nBind (nStand (nBind (nPure (nBind (he _ _ _ _ _ _ _ _ _ _ _ c5 h hh fun ρ1 H1 v v' h1 tk1 q1 x1 S1 m1 => ?_)))))
  refine nBind (nOf_eq (a := none) rfl ?_)
  show wpN _ _ (assign (Expr.Subscript x k p) env v' >>= fun _ => pure Flow.next) _ _
  rw [arm_assign_Subscript]
  refine nBind (nBind (nHolding (ho _ _ _ _ _ _ _ _ _ _ _ c3 q1 (hh.step x1 S1) fun ρ2 H2 u u' h2 tk2 q2 x2 S2 m2 => ?_)))
  refine nBind (nHolding (hi _ _ _ _ _ _ _ _ _ _ _ c4 q2 ((hh.step (tk := tk1) x1 S1).step (tk := tk2) x2 S2) fun ρ3 H3 z z' h3 tk3 q3 x3 S3 m3 => ?_))
  refine nBind (nStand (nBind (nHolding (nAny (setItemA_sound (s := { s with heap := h3, toks := tk3 }) q3 S3 (m2.mono x3.pre) m3 ((m1.mono x2.pre).mono x3.pre) fun H4 h4 tk4 q4 x4 S4 => ?_)))))
  have xx : Ext ρ s.heap ρ3 h4 := ((x1.trans S1 x2).trans S2 x3).trans S3 x4
  exact nRelease (nPure (C .next _ ρ3 H4 .next h4 tk4 q4 xx.toF (hh.lr.ext xx) S4 rfl))
theorem inplace_sound {op : BOp} {o : Operator} {i j : Int} {a' b' : Value} {E : Value → Shared → Prop} {Q : PQ} {Qc : Value → Shared → Prop} (hop : op = .add ∨ op = .shr) (ho : bopOk op o = true) (h : binA op (.int i) (.int j) H Q) (S : St base ρ H s.heap) (ma : VM ρ (.int i) a') (mb : VM ρ (.int j) b') (C : Cont base ρ s Q Qc) :
    wpAny (M w) A (inplaceOp o a' b') Qc E s := by
  obtain ⟨t, rfl⟩ := ma; obtain ⟨u, rfl⟩ := mb
  rcases hop with rfl | rfl
  · cases bopOk_eq ho
    exact iadd_int (C.same S h ⟨_, rfl⟩ _)
  · cases bopOk_eq ho
    exact irshift_int h.1 (C.same S h.2 ⟨_, by rw [Int.fdiv_eq_ediv_of_nonneg _ (Int.le_of_lt (Int.pow_pos (by decide)))]⟩ _)
theorem S_aug {i : Nat} {op : BOp} {e : IE} (he : ES w base n Γ e) : SS w base n Γ (.aug i op e) := fun nm vs x env A loc ρ H s QS Qf hc h hh C => by
  replace hc := isAug_inv hc
  obtain ⟨tt, o, y, pos, rfl, hc⟩ := hc
  replace hc := isNam_inv hc
  obtain ⟨id, p, rfl, hc⟩ := hc
  simp only [Bool.and_eq_true, beq_iff_eq] at hc
  obtain ⟨hop, h⟩ := h
  obtain ⟨v, hv, h⟩ := vget_eq h
  rw [exec_AugAssign_Name]
  refine nBind (nStand (nBind (nAny (hh.lr.load hc.1.1 hv fun v' m => ?_))))
  refine nBind (nHolding (he _ _ _ _ _ _ _ _ _ _ _ hc.2 h hh fun ρ1 H1 u u' h1 tk1 q1 x1 S1 m1 => ?_))
  replace q1 := onInt2_inv q1
  obtain ⟨a, b, rfl, rfl, q1⟩ := q1
  refine nBind (nStand (nBind (nOperate (nAny (inplace_sound (ρ := ρ1) (H := H1) (s := { s with heap := h1, toks := tk1 }) (base := base) hop hc.1.2 q1 S1 (m.mono x1.pre) m1 fun ρ2 H2 z z' h2 tk2 q2 x2 S2 m2 => ?_)))))
  refine nBind (nStand (nBind (nAny (store_sound ((hh.step (tk := tk1) x1 S1).step (tk := tk2) x2 S2) hc.1.1 m2 fun h3 tk3 x3 F3 S3 => ?_))))
  have xx : Ext ρ s.heap ρ2 h2 := x1.trans S1 x2
  exact nPure (C .next _ ρ2 H2 .next h3 tk3 q2 (xx.toF.trans S2 (hh.lr.ext xx) x3) F3 S3 rfl)
theorem S_while_turn {t : IE} {b : ISs} {test : Expr} {body : List Stmt} (ht : TS w base n Γ t) (hb : SSs w base n Γ b) (ct : ckT nm vs t test = true) (cb : ckSs nm vs b body = true) :
    ∀ (k : Nat) (loc : Loc) (ρ : List Addr) (H : AH) (s : Shared), whiles (fun loc H Q => WT Γ t loc H Q) (fun loc H Q => WSs Γ b loc H Q) k loc H QS → Here w base n A env nm vs loc ρ H s → ContS base env vs ρ s QS Qf → codeN (M w) A (.whileLoop test body [] env) Qf s
  | 0, _, _, _, _, h, _, _ => h.elim
  | k + 1, loc, ρ, H, s, h, hh, C => by
    refine codeN_tree rfl ?_
    show wpN _ A ((whileTurn test body [] env).onRaise (fun x => do noteFrame x env; theTreesLotGoes x)) _ s
    refine nOnRaise ?_
    simp only [whileTurn]
    refine nBind (ht _ _ _ _ _ _ _ _ _ _ _ ct h hh fun ρ1 H1 c h1 tk1 q1 x1 S1 => ?_)
    cases c with
    | false =>
      simp only [Bool.false_eq_true, if_false] at q1 ⊢
      exact nBind (nPure (nPure (C .next _ ρ1 H1 .next h1 tk1 q1 x1.toF (hh.lr.ext x1) S1 rfl)))
    | true =>
      simp only [if_true] at q1 ⊢
      refine nBind (hb _ _ _ _ _ _ _ _ _ _ _ cb q1 (hh.step (tk := tk1) x1 S1) fun fl l2 ρ2 H2 fl' h2 tk2 q2 x2 F2 S2 m => ?_)
      have C1 : ContS base env vs ρ1 { s with heap := h1, toks := tk1 } QS Qf := C.step x1.toF S1 (hh.lr.ext x1)
      cases fl with
      | next =>
        cases m
        exact nPure ⟨rfl, S_while_turn ht hb ct cb k l2 ρ2 H2 _ q2 ((hh.step (tk := tk1) x1 S1).stepF (tk := tk2) S2 F2) (C1.step (tk := tk2) x2 S2 F2)⟩
      | ret v =>
        obtain ⟨v', rfl, mv⟩ := m
        exact nPure (C1 (.ret v) l2 ρ2 H2 _ h2 tk2 q2 x2 F2 S2 ⟨v', rfl, mv⟩)
theorem S_whil {t : IE} {b : ISs} (ht : TS w base n Γ t) (hb : SSs w base n Γ b) : SS w base n Γ (.whil t b) := fun nm vs x env A loc ρ H s QS Qf hc h hh C => by
  replace hc := isWhi_inv hc
  obtain ⟨x, p, q, pos, rfl, hc⟩ := hc
  simp only [Bool.and_eq_true] at hc
  obtain ⟨⟨c0, c1⟩, c2⟩ := hc
  cases nilB_inv c0
  obtain ⟨k, h⟩ := h
  rw [exec_While]
  exact nBind (nStand (nRunOwn (S_while_turn ht hb c1 c2 k loc ρ H s h hh C)))
end
end Mine
end
section
open PySem PySem.W PySem.Calls PyProof.Rows
open PySem.Sem (wp)
set_option maxHeartbeats 2000000
namespace Mine
theorem ExtF.same {env : Env} {ρ ρ' : List Addr} {h₀ h h' : Heap} (x : ExtF env ρ h₀ ρ' h) (k : ∀ b o, h₀.get? b = some o → h.get? b = some o → h'.get? b = some o) : ExtF env ρ h₀ ρ' h' :=
  ⟨x.grow, fun b o e hb hl hc => k b o e (x.keep b o e hb hl hc)⟩
section
variable {w : World} {base : Heap} {n : Nat} {Γ : Orc} {A : Around} {env : Env} {nm : NM} {vs : List Str} {loc loc' : Loc} {ρ ρ' : List Addr} {H H' : AH} {s s₀ : Shared} {QS : SQ} {Qf : Flow → Shared → Prop} {h' : Heap} {tk : Nat}
theorem nBlock {Q : Flow → Shared → Prop} (h : Q .next s) : codeN (M w) A (.block [] env) Q s := by
  refine codeN_tree rfl ?_
  show wpN _ _ (do return Fin.done (← (execs [] env).onRaise (fun x => do noteFrame x env; theTreesLotGoes x))) _ s
  exact nBind (nOnRaise (nPure (nPure h)))
theorem for_loop {b : ISs} {x : Str} {px : Pos} {body : List Stmt} {i : Nat} {it : Addr} {ρ₀ : List Addr} {items : List AV} {ok : AH → Prop} {Pit : Nat → Heap → Prop} (hb : SSs w base n Γ b) (cb : ckSs nm vs b body = true) (hx : vs[i]? = some x) (W : Walk w base it ρ₀ items ok Pit) (hbase : base.get? it = none) (h0 : s₀.heap.get? it = none)
    (hl : it ≠ env.locals) (hcs : ∀ z, env.cells.lookup z ≠ some it) (C : ContS base env vs ρ₀ s₀ QS Qf) :
    ∀ (rest : List AV) (k : Nat) (loc : Loc) (ρ : List Addr) (H : AH) (s : Shared), items.drop k = rest → turns (fun loc H Q => WSs Γ b loc H Q) ok i rest loc H QS → Here w base n A env nm vs loc ρ H s → Pit k s.heap → k ≤ items.length →
      it ∉ ρ → ExtF env ρ₀ s₀.heap ρ s.heap → (∃ h tk, s = { s₀ with heap := h, toks := tk }) → codeN (M w) A (.forLoop (.Name x px) (.ref it) body [] env) Qf s := by
  intro rest
  induction rest with
  | nil =>
    intro k loc ρ H s hd h hh hp hk hi ex sh
    obtain ⟨hok, hq⟩ := h
    obtain ⟨hs, tks, rfl⟩ := sh
    have hk' : k = items.length := by
      have := congrArg List.length hd
      simp at this; exact om428 hk this
    subst hk'
    refine codeN_tree rfl ?_
    show wpN _ _ ((forTurn (.Name x px) (.ref it) body [] env).onRaise (fun x => do noteFrame x env; theTreesLotGoes x)) _ _
    refine nOnRaise ?_
    simp only [forTurn]
    refine nBind (nStand (nBind (nOnRaise (nAny (W.done A ρ H _ _ hh.aok.hand hok hh.st ex.pre hp fun h1 he => ?_)))))
    refine nPure ⟨rfl, nBlock ?_⟩
    refine C .next loc ρ H .next h1 tks hq (ex.same fun b o e0 e => he b o (fun q => by subst q; rw [h0] at e0; cases e0) e) (hh.lr.frame ?_ fun y c e => ?_) (hh.st.off (a := it) (fun b o hb e => he b o hb e) hi hbase) rfl
    · obtain ⟨m, ⟨o, es, ep, e, d⟩, _⟩ := hh.lr.ns
      exact (he _ _ (Ne.symm hl) e).trans e.symm
    · obtain ⟨⟨v, o, eo, d⟩, _, _⟩ := hh.lr.cell y c e
      exact (he _ _ (fun q => hcs y (q ▸ e)) eo).trans eo.symm
  | cons v rest ih =>
    intro k loc ρ H s hd h hh hp hk hi ex sh
    obtain ⟨hok, hq⟩ := h
    obtain ⟨hs, tks, rfl⟩ := sh
    have hk1 : items[k]? = some v := by
      have := congrArg (fun l => l[0]?) hd
      simpa using this
    have hk2 : k < items.length := (List.getElem?_eq_some_iff.mp hk1).1
    refine codeN_tree rfl ?_
    show wpN _ _ ((forTurn (.Name x px) (.ref it) body [] env).onRaise (fun x => do noteFrame x env; theTreesLotGoes x)) _ _
    refine nOnRaise ?_
    simp only [forTurn]
    refine nBind (nStand (nBind (nOnRaise (nAny (W.item A k v ρ H _ _ hh.aok.hand hk1 hok hh.st ex.pre hp fun v' h1 tk1 mv hp1 hs1 => ?_)))))
    have st1 : St base ρ H h1 := hh.st.off (a := it) (fun b o hb e => (hs1.2 b hb).trans e) hi hbase
    have lr1 : LR env vs loc ρ h1 := hh.lr.frame (hs1.2 _ (Ne.symm hl)) fun y c e => hs1.2 _ fun q => hcs y (q ▸ e)
    have ex1 : ExtF env ρ₀ s₀.heap ρ h1 := ex.same fun b o e0 e => (hs1.2 b fun q => by subst q; rw [h0] at e0; cases e0).trans e
    have hh1 : Here w base n A env nm vs loc ρ H { s₀ with heap := h1, toks := tk1 } := ⟨hh.gb, hh.aok, hh.frm, lr1, st1⟩
    refine nBind (nOf_eq (a := ()) rfl ?_)
    refine nBind ?_
    rw [PySem.assign_Name]
    refine nBind (nStand (nAny (store_sound hh1 hx mv fun h2 tk2 x2 F2 S2 => ?_)))
    have hp2 : Pit (k + 1) h2 := by
      obtain ⟨o, eo⟩ := W.alive _ _ hp1
      exact W.keep _ _ _ hp1 ((x2.keep _ _ eo hi hl hcs).trans eo.symm)
    have ex2 : ExtF env ρ₀ s₀.heap ρ h2 := ex1.trans st1 lr1 x2
    refine nBind (hb _ _ _ _ _ _ _ _ { s₀ with heap := h2, toks := tk2 } _ _ cb hq ⟨hh.gb, hh.aok, hh.frm, F2, S2⟩ fun fl l3 ρ3 H3 fl' h3 tk3 q3 x3 F3 S3 m => ?_)
    have ex3 : ExtF env ρ₀ s₀.heap ρ3 h3 := ex2.trans S2 F2 x3
    obtain ⟨oi, eoi⟩ := W.alive _ _ hp2
    cases fl with
    | next =>
      cases m
      refine nPure ⟨rfl, ih (k + 1) l3 ρ3 H3 { s₀ with heap := h3, toks := tk3 } (by
        have := congrArg (List.drop 1) hd
        simpa using this) q3 ⟨hh.gb, hh.aok, hh.frm, F3, S3⟩ (W.keep _ _ _ hp2 ((x3.keep _ _ eoi hi hl hcs).trans eoi.symm)) hk2 (x3.off eoi hi) ex3 ⟨_, _, rfl⟩⟩
    | ret v =>
      obtain ⟨v', rfl, mv'⟩ := m
      exact nPure (C (.ret v) l3 ρ3 H3 _ h3 tk3 q3 ex3 F3 S3 ⟨v', rfl, mv'⟩)
theorem nFor {target iter : Expr} {body : List Stmt} {pos : Pos} (hs : ∀ x, foldedSetIterable iter env x = pure x)
    (h : wpN (M w) A (eval iter env) (fun x s₁ => wpN (M w) A (pyIter x) (fun it s₂ => codeN (M w) A (.forLoop target it body [] env) Qf s₂) s₁) s) : wpN (M w) A (exec (.For target iter body [] pos) env) Qf s := by
  rw [exec_For]
  exact nBind (nStand (nBind (nMono h fun x s₁ h₁ => nBind (nOf_eq (hs x) (nBind (nStand (nBind (nHolding (nMono h₁ fun it s₂ h₂ => nRunOwn h₂)))))))))
theorem not_cell_of_size {h : Heap} {a : Addr} (F : LR env vs loc ρ h) (ha : h.objs.size ≤ a) : a ≠ env.locals ∧ ∀ z, env.cells.lookup z ≠ some a := by
  refine ⟨fun q => ?_, fun z e => ?_⟩
  · subst q
    obtain ⟨m, ⟨o, _, _, e, _⟩, _⟩ := F.ns
    exact absurd (Heap.lt_size e) (Nat.not_lt.mpr ha)
  · obtain ⟨⟨v, o, eo, d⟩, _, _⟩ := F.cell z a e
    exact absurd (Heap.lt_size eo) (Nat.not_lt.mpr ha)
theorem S_forL {i : Nat} {src : IE} {b : ISs} (hs : ES w base n Γ src) (hb : SSs w base n Γ b) : SS w base n Γ (.forL i src b) := fun nm vs x env A loc ρ H s QS Qf hc h hh C => by
  replace hc := isFor_inv hc
  obtain ⟨tt, it, p, q, pos, rfl, hc⟩ := hc
  replace hc := and2 hc
  obtain ⟨c0, hc⟩ := hc
  cases nilB_inv c0
  replace hc := isNam_inv hc
  obtain ⟨id, px, rfl, hc⟩ := hc
  simp only [Bool.and_eq_true, beq_iff_eq] at hc
  obtain ⟨⟨⟨c1, c2⟩, c3⟩, c4⟩ := hc
  refine nFor (notSet_iter c2) (hs _ _ _ _ _ _ _ _ _ _ _ c3 h hh fun ρ1 H1 v v' h1 tk1 q1 x1 S1 m1 => ?_)
  cases v <;> first | exact False.elim q1 | skip
  rename_i r
  obtain ⟨us, e1, hz, hw⟩ := q1
  obtain ⟨l, its, c, rfl, hl, g1, ml⟩ := St.list (s := { s with heap := h1, toks := tk1 }) S1 m1 e1
  refine nAny (wpAny_pyIter_list (isList_of g1) ?_)
  have kp : ∀ b o, h1.get? b = some o → (h1.push { cls := .type "list_iterator", data := .fields #[.ref l, .int 0 0] }).get? b = some o := fun b o e => Heap.get?_push_of_some _ e
  have hh1 : Here w base n A env nm vs loc ρ1 H1 { s with heap := h1.push { cls := .type "list_iterator", data := .fields #[.ref l, .int 0 0] }, toks := tk1 } :=
    (hh.step (tk := tk1) x1 S1).step (Ext.grown kp) (S1.grown kp)
  have nc := not_cell_of_size (hh.lr.ext x1) (Nat.le_refl _)
  have C1 : ContS base env vs ρ1 { s with heap := h1, toks := tk1 } QS Qf := C.step x1.toF S1 (hh.lr.ext x1)
  refine for_loop (s₀ := { s with heap := h1, toks := tk1 }) hb c4 c1 (walk_list (r := r) (vs := us) hl) (none_of_size (Nat.le_refl _) S1.keep) (push_free _) nc.1 nc.2 C1 us 0 loc ρ1 H1 _ rfl hw hh1 ⟨_, Heap.get?_push_size _ rfl, rfl, rfl⟩ (Nat.zero_le _) (fun hm => ?_) (Ext.grown kp).toF ⟨_, _, rfl⟩
  obtain ⟨o, e⟩ := S1.alive hm
  exact Nat.lt_irrefl _ (Heap.lt_size e)
end
end Mine
end
section
open PySem PySem.W PySem.Calls PyProof.Rows
open PySem.Sem (wp)
set_option maxHeartbeats 2000000
namespace Mine
section
variable {w : World} {base : Heap} {n : Nat} {Γ : Orc} {A : Around} {env : Env} {nm : NM} {vs : List Str} {loc loc' : Loc} {ρ ρ' : List Addr} {H H' : AH} {s s₀ : Shared} {QS : SQ} {Qf : Flow → Shared → Prop} {h' : Heap} {tk : Nat}
noncomputable def many (a k st : Int) : Nat := if a < k then ((k - a - 1) / st + 1).toNat else 0
theorem upto_eq (a k st : Int) : upto a k st = (List.range (many a k st)).map fun (i : Nat) => AV.int (a + (i : Int) * st) := rfl
theorem rangeSize_many {a k st : Int} (hs : 0 < st) : Builtin.Range.rangeSize a k st = (many a k st : Int) := by
  unfold Builtin.Range.rangeSize many
  rw [if_pos hs]
  split
  · have : 0 ≤ (k - a - 1) / st := Int.ediv_nonneg (om429 ‹_›) (om430 hs)
    rw [Int.toNat_of_nonneg (om15 this)]
  · rfl
theorem small_ok {a k st : Int} (a0 : -1000000 ≤ a) (a1 : a ≤ 1000000) (k0 : -1000000 ≤ k) (k1 : k ≤ 1000000) (s0 : 0 < st) (s1 : st ≤ 1000000) : Builtin.Range.small a k st = true := by
  unfold Builtin.Range.small
  rw [rangeSize_many s0]
  have hm : (many a k st : Int) ≤ 2000001 := by
    unfold many
    split
    · have h1 : (k - a - 1) / st ≤ k - a - 1 := Int.ediv_le_self _ (om429 ‹_›)
      have h0 : 0 ≤ (k - a - 1) / st := Int.ediv_nonneg (om429 ‹_›) (om430 s0)
      rw [Int.toNat_of_nonneg (om15 h0)]; exact om431 a0 k1 h1
    · show (0 : Int) ≤ _; exact om432
  simp only [Builtin.Range.rangeFitsLong, Bool.and_eq_true, Bool.or_eq_true, decide_eq_true_eq, beq_iff_eq]
  rw [if_pos (om433 s0)]
  refine ⟨⟨⟨⟨?_, ?_⟩, ?_⟩, ?_⟩, .inr ?_⟩
  all_goals first | omega | (simp only [Bool.and_eq_true, decide_eq_true_eq]; omega)
theorem range_loop {b : ISs} {x : Str} {px : Pos} {body : List Stmt} {i : Nat} {a k st : Int} {t1 t2 t3 : Tok} (hb : SSs w base n Γ b) (cb : ckSs nm vs b body = true) (hx : vs[i]? = some x)
    (b1 : -1000000 ≤ a ∧ a ≤ 1000000 ∧ -1000000 ≤ k ∧ k ≤ 1000000 ∧ 0 < st ∧ st ≤ 1000000) (hw : turns (fun loc H Q => WSs Γ b loc H Q) (fun _ => True) i (upto a k st) loc H QS) (hh : Here w base n A env nm vs loc ρ H s) (C : ContS base env vs ρ s QS Qf) (tk : Nat) :
    wpN (M w) A (pyIter (.ref s.heap.objs.size)) (fun it s₂ => codeN (M w) A (.forLoop (.Name x px) it body [] env) Qf s₂) { s with heap := s.heap.push { cls := .type "range", data := .fields #[.int a t1, .int k t2, .int st t3] }, toks := tk } := by
  obtain ⟨a0, a1, k0, k1, s0, s1⟩ := b1
  refine nAny (wpAny_pyIter_range (IsRange.new ..) (small_ok a0 a1 k0 k1 s0 s1) ?_)
  rw [rangeSize_many s0]
  dsimp only
  have sz : (s.heap.push { cls := .type "range", data := .fields #[.int a t1, .int k t2, .int st t3] }).objs.size = s.heap.objs.size + 1 := Heap.size_push _ _
  rw [sz]
  have kp : ∀ b o, s.heap.get? b = some o → ((s.heap.push { cls := .type "range", data := .fields #[.int a t1, .int k t2, .int st t3] }).push { cls := .type "range_iterator", data := .fields #[rawInt a, rawInt (many a k st : Int), rawInt st] }).get? b = some o := fun b o e => Heap.get?_push_of_some _ (Heap.get?_push_of_some _ e)
  have git : ((s.heap.push { cls := .type "range", data := .fields #[.int a t1, .int k t2, .int st t3] }).push { cls := .type "range_iterator", data := .fields #[rawInt a, rawInt (many a k st : Int), rawInt st] }).get? (s.heap.objs.size + 1) = some { cls := .type "range_iterator", data := .fields #[rawInt a, rawInt (many a k st : Int), rawInt st] } := by
    have := Heap.get?_push_size (s.heap.push { cls := .type "range", data := .fields #[.int a t1, .int k t2, .int st t3] }) (o := { cls := .type "range_iterator", data := .fields #[rawInt a, rawInt (many a k st : Int), rawInt st] }) rfl
    rw [sz] at this; exact this
  have nc := not_cell_of_size hh.lr (Nat.le_succ s.heap.objs.size)
  have hh1 : Here w base n A env nm vs loc ρ H { s with heap := (s.heap.push { cls := .type "range", data := .fields #[.int a t1, .int k t2, .int st t3] }).push { cls := .type "range_iterator", data := .fields #[rawInt a, rawInt (many a k st : Int), rawInt st] }, toks := tk } := hh.step (Ext.grown kp) (hh.st.grown kp)
  refine for_loop (s₀ := s) hb cb hx (walk_range (a := a) (st := st) (N := many a k st)) (none_of_size (Nat.le_succ _) hh.st.keep) (none_of_size (Nat.le_succ _) fun _ _ e => e) nc.1 nc.2 C (upto a k st) 0 loc ρ H _ rfl hw hh1 ⟨Nat.zero_le _, by unfold IsRangeIter; simpa using git⟩ (Nat.zero_le _) (fun hm => ?_) (Ext.grown kp).toF ⟨_, _, rfl⟩
  obtain ⟨o, e⟩ := hh.st.alive hm
  exact Nat.not_succ_lt_self (Heap.lt_size e)
theorem S_forR {i : Nat} {k : IE} {b : ISs} (hk : ES w base n Γ k) (hb : SSs w base n Γ b) : SS w base n Γ (.forR i k b) := fun nm vs x env A loc ρ H s QS Qf hc h hh C => by
  replace hc := isFor_inv hc
  obtain ⟨tt, it, p, q, pos, rfl, hc⟩ := hc
  replace hc := and2 hc
  obtain ⟨c0, hc⟩ := hc
  cases nilB_inv c0
  replace hc := isNam_inv hc
  obtain ⟨id, px, rfl, hc⟩ := hc
  replace hc := isFun_inv hc
  obtain ⟨rg, p2, es, cpos, rfl, hc⟩ := hc
  replace hc := one_inv hc
  obtain ⟨k', rfl, hc⟩ := hc
  simp only [Bool.and_eq_true, beq_iff_eq] at hc
  obtain ⟨⟨⟨⟨⟨c1, c2⟩, c3⟩, c4⟩, c5⟩, c6⟩ := hc
  subst c3
  obtain ⟨mg, mb, g1, g2, gi, gf, gc, gb, gr, gr2⟩ := hh.gb.ns
  refine nFor (fun _ => rfl) ?_
  rw [arm_eval_Call_Name']
  refine nBind (nAny (globB c2 hh g1 g2 gr gr2 ?_))
  refine nCallWith (P := fun _ => True) (by rw [star_cons c4]; rfl) (fun h _ => look_type h _) ?_
  rw [star_cons c4]
  refine splice_cons (hk _ _ _ _ _ _ _ _ _ _ _ c5 h hh fun ρ1 H1 v v' h1 tk1 q1 x1 S1 m1 => splice_nil ⟨trivial, ?_⟩)
  cases v <;> first | exact False.elim q1 | skip
  obtain ⟨t, rfl⟩ := m1
  obtain ⟨⟨z0, z1⟩, hw⟩ := q1
  refine nAny (call_range_1 ?_)
  exact range_loop (s := { s with heap := h1, toks := tk1 }) hb c6 c1 ⟨by exact om434, by exact om435, by exact om436 z0, by exact om426 z1, by exact om437, by exact om438⟩ hw (hh.step (tk := tk1) x1 S1) (C.step x1.toF S1 (hh.lr.ext x1)) _
theorem S_forR3 {i : Nat} {a k st : IE} {b : ISs} (ha : ES w base n Γ a) (hk : ES w base n Γ k) (hst : ES w base n Γ st) (hb : SSs w base n Γ b) : SS w base n Γ (.forR3 i a k st b) := fun nm vs x env A loc ρ H s QS Qf hc h hh C => by
  replace hc := isFor_inv hc
  obtain ⟨tt, it, p, q, pos, rfl, hc⟩ := hc
  replace hc := and2 hc
  obtain ⟨c0, hc⟩ := hc
  cases nilB_inv c0
  replace hc := isNam_inv hc
  obtain ⟨id, px, rfl, hc⟩ := hc
  replace hc := isFun_inv hc
  obtain ⟨rg, p2, es, cpos, rfl, hc⟩ := hc
  replace hc := consB_inv hc
  obtain ⟨i', es, rfl, hc⟩ := hc
  replace hc := twoB_inv hc
  obtain ⟨j', k', rfl, hc⟩ := hc
  simp only [Bool.and_eq_true, beq_iff_eq] at hc
  obtain ⟨⟨⟨⟨⟨⟨⟨⟨⟨c1, c2⟩, c3⟩, c4⟩, c5⟩, c6⟩, c7⟩, c8⟩, c9⟩, c10⟩ := hc
  subst c3
  obtain ⟨mg, mb, g1, g2, gi, gf, gc, gb, gr, gr2⟩ := hh.gb.ns
  refine nFor (fun _ => rfl) ?_
  rw [arm_eval_Call_Name']
  refine nBind (nAny (globB c2 hh g1 g2 gr gr2 ?_))
  refine nCallWith (P := fun _ => True) (by rw [star_cons c4, star_cons c5, star_cons c6]; rfl) (fun h _ => look_type h _) ?_
  rw [star_cons c4, star_cons c5, star_cons c6]
  refine splice_cons (ha _ _ _ _ _ _ _ _ _ _ _ c7 h hh fun ρ1 H1 v v' h1 tk1 q1 x1 S1 m1 => ?_)
  refine splice_cons (hk _ _ _ _ _ _ _ _ _ _ _ c8 q1 (hh.step (tk := tk1) x1 S1) fun ρ2 H2 u u' h2 tk2 q2 x2 S2 m2 => ?_)
  refine splice_cons (hst _ _ _ _ _ _ _ _ _ _ _ c9 q2 ((hh.step (tk := tk1) x1 S1).step (tk := tk2) x2 S2) fun ρ3 H3 z z' h3 tk3 q3 x3 S3 m3 => splice_nil ⟨trivial, ?_⟩)
  have m2' := m2.mono x3.pre
  have m1' := (m1.mono x2.pre).mono x3.pre
  replace q3 := onInt2_inv q3
  obtain ⟨i1, i2, rfl, rfl, q3⟩ := q3
  replace q3 := onInt_inv q3
  obtain ⟨i3, rfl, q3⟩ := q3
  obtain ⟨t, rfl⟩ := m1'
  obtain ⟨t', rfl⟩ := m2'
  obtain ⟨t'', rfl⟩ := m3
  obtain ⟨⟨z0, z1, z2, z3, z4, z5⟩, hw⟩ := q3
  have xx : Ext ρ s.heap ρ3 h3 := (x1.trans S1 x2).trans S2 x3
  refine nAny (call_range_3 (om439 z4) ?_ (.inl (PyProof.noPylong_small (om440 z4 z5))))
  exact range_loop (s := { s with heap := h3, toks := tk3 }) hb c10 c1 ⟨by exact om441 z0, by exact om426 z1, by exact om441 z2, by exact om426 z3, by exact om442 z4, by exact om426 z5⟩ hw (hh.step (tk := tk3) xx S3) (C.step xx.toF S3 (hh.lr.ext xx)) _
end
end Mine
end
section
open PySem PySem.W PySem.Calls PyProof.Rows
open PySem.Sem (wp)
set_option maxHeartbeats 2000000
namespace Mine
section
variable {w : World} {base : Heap} {n : Nat} {Γ : Orc} {A : Around} {env : Env} {nm : NM} {vs : List Str} {loc loc' : Loc} {ρ ρ' : List Addr} {H H' : AH} {s s₀ : Shared} {QS : SQ} {Qf : Flow → Shared → Prop} {h' : Heap} {tk : Nat}
abbrev Trip := Nat × Str × AV × Value
noncomputable def putAll (L : List Trip) (loc : Loc) : Loc := L.foldl (fun loc t => loc.set t.1 (some t.2.2.1)) loc
theorem stores_sound {M' : Model} {E : Value → Shared → Prop} (f : Str → Value → Sem Unit) (hf : ∀ x v s Q, wpAny M' A (bindName env x v) Q E s → wpAny M' A (f x v) Q E s) : ∀ (L : List Trip) (loc : Loc) (s : Shared) (Qu : Unit → Shared → Prop), (∀ t ∈ L, vs[t.1]? = some t.2.1 ∧ VM ρ t.2.2.1 t.2.2.2) → Here w base n A env nm vs loc ρ H s →
    (∀ h' tk, ExtF env ρ s.heap ρ h' → LR env vs (putAll L loc) ρ h' → St base ρ H h' → Qu () { s with heap := h', toks := tk }) → wpAny M' A (assignInOrder (L.map fun t => f t.2.1) (L.map fun t => t.2.2.2)) Qu E s
  | [], loc, s, Qu, hL, hh, k => wpAny_pure (k s.heap s.toks (Ext.refl ..).toF hh.lr hh.st)
  | t :: L, loc, s, Qu, hL, hh, k => by
    obtain ⟨h1, h2⟩ := hL t (List.mem_cons_self ..)
    show wpAny _ _ (holding _ (f t.2.1 t.2.2.2) >>= fun _ => assignInOrder (L.map fun t => f t.2.1) (L.map fun t => t.2.2.2)) _ _ _
    refine wpAny_bind (wpAny_holding (hf _ _ _ _ (store_sound hh h1 h2 fun h' tk x1 F1 S1 => ?_)))
    refine stores_sound f hf L (loc.set t.1 (some t.2.2.1)) { s with heap := h', toks := tk } Qu (fun t ht => hL t (List.mem_cons_of_mem _ ht)) (hh.stepF S1 F1) fun h2 tk2 x2 F2 S2 => ?_
    exact k h2 tk2 (x1.trans S1 F1 x2) F2 S2
theorem putAll_perm {L L' : List Trip} (p : L.Perm L') (hd : ∀ x ∈ L, ∀ y ∈ L, x.1 = y.1 → x = y) (loc : Loc) : putAll L loc = putAll L' loc := by
  unfold putAll
  refine p.foldl_eq' (fun x hx y hy z => ?_) loc
  by_cases q : x.1 = y.1
  · rw [hd x hx y hy q]
  · exact List.set_comm _ _ q
theorem setAll_put : ∀ (xs : List Nat) (es : List Str) (us : List AV) (its : List Value) (loc : Loc), es.length = xs.length → us.length = xs.length → its.length = xs.length →
    setAll xs us loc = putAll ((xs.zip (es.zip (us.zip its)))) loc
  | [], [], [], [], loc, _, _, _ => rfl
  | x :: xs, e :: es, u :: us, i :: its, loc, h1, h2, h3 => by
    simp only [List.length_cons, Nat.add_right_cancel_iff] at h1 h2 h3
    show setAll xs us (loc.set x (some u)) = putAll (xs.zip (es.zip (us.zip its))) (loc.set x (some u))
    exact setAll_put xs es us its _ h1 h2 h3
  | [], _ :: _, _, _, _, h, _, _ => by simp at h
  | [], [], _ :: _, _, _, _, h, _ => by simp at h
  | [], [], [], _ :: _, _, _, _, h => by simp at h
  | _ :: _, [], _, _, _, h, _, _ => by simp at h
  | _ :: _, _ :: _, [], _, _, _, h, _ => by simp at h
  | _ :: _, _ :: _, _ :: _, [], _, _, _, h => by simp at h
noncomputable def idOf : Expr → Str
  | .Name id _ => id
  | _ => debugStr
noncomputable def posOf : Expr → Pos
  | .Name _ p => p
  | _ => default
theorem names_of : ∀ {xs : List Nat} {es : List Expr}, namesAre vs xs es = true → es.length = xs.length ∧ (∀ p ∈ xs.zip (es.map idOf), vs[p.1]? = some p.2) ∧ (∀ e ∈ es, e = .Name (idOf e) (posOf e))
  | [], es, h => by
    cases nilB_inv (l := es) h
    exact ⟨rfl, fun p hp => by simp at hp, fun e he => nomatch he⟩
  | i :: is, es, h => by
    replace h := consB_inv (l := es) h
    obtain ⟨e, es, rfl, h⟩ := h
    obtain ⟨h0, hr⟩ := and2 h
    clear h
    replace h0 := isNam_inv h0
    obtain ⟨id, p, rfl, h0⟩ := h0
    obtain ⟨h1, h2, h3⟩ := names_of hr
    refine ⟨congrArg (· + 1) h1, fun q hq => ?_, fun e he => ?_⟩
    · rcases List.mem_cons.mp hq with rfl | hq
      · exact eq_of_beq h0
      · exact h2 q hq
    · rcases List.mem_cons.mp he with rfl | he
      · rfl
      · exact h3 e he
theorem each_names : ∀ {es : List Expr}, (∀ e ∈ es, e = .Name (idOf e) (posOf e)) → assignEach es env = es.map fun e => (false, assign e env)
  | [], _ => rfl
  | e :: es, h => by
    have he := h e (List.mem_cons_self ..)
    have ih := each_names (es := es) fun e he => h e (List.mem_cons_of_mem _ he)
    obtain ⟨x, p, rfl⟩ : ∃ x p, e = .Name x p := ⟨_, _, he⟩
    show (false, assign (.Name x p) env) :: assignEach es env = _
    rw [ih]; rfl
theorem filter_names {env : Env} {line : Nat} : ∀ {es : List Expr}, (∀ e ∈ es, e = .Name (idOf e) (posOf e)) →
    (es.filterMap fun | .Name id pos => if env.kindOf id == some .local && pos.line == line then some id else none | _ => none).length ≤ es.length ∧
    ((es.filterMap fun | .Name id pos => if env.kindOf id == some .local && pos.line == line then some id else none | _ => none).length = es.length → (es.filterMap fun | .Name id pos => if env.kindOf id == some .local && pos.line == line then some id else none | _ => none) = es.map idOf)
  | [], _ => ⟨Nat.le_refl _, fun _ => rfl⟩
  | e :: es, h => by
    have he := h e (List.mem_cons_self ..)
    obtain ⟨i1, i2⟩ := filter_names (env := env) (line := line) (es := es) fun e he => h e (List.mem_cons_of_mem _ he)
    obtain ⟨x, p, rfl⟩ : ∃ x p, e = .Name x p := ⟨_, _, he⟩
    rw [List.filterMap_cons]
    dsimp only
    by_cases q : (env.kindOf x == some .local && p.line == line) = true
    · rw [if_pos q]
      refine ⟨Nat.succ_le_succ i1, fun hl => ?_⟩
      have hl' := Nat.succ.inj hl
      show x :: _ = x :: es.map idOf
      rw [i2 hl']
    · rw [if_neg q]
      refine ⟨Nat.le_succ_of_le i1, fun hl => ?_⟩
      exact absurd (hl ▸ i1) (Nat.not_succ_le_self _)
theorem swapped_cases {es : List Expr} {c : Nat} {tp : Pos} {y : Expr} (h : ∀ e ∈ es, e = .Name (idOf e) (posOf e)) (hp : plainTup y = true) : ∃ r, swappedStores [.Tuple es c tp] y env = pure r ∧ (r = none ∨ r = some (es.map idOf)) := by
  cases y <;> first | exact ⟨none, rfl, .inl rfl⟩ | skip
  rename_i us k p
  unfold swappedStores
  dsimp only
  by_cases c1 : (!(es.length == 2 || es.length == 3) || us.length != es.length || env.blockKind != .function) = true
  · exact ⟨none, by rw [if_pos c1], .inl rfl⟩
  rw [if_neg c1]
  split
  · exact ⟨none, rfl, .inl rfl⟩
  generalize hn : List.filterMap _ es = names
  have F : names.length = es.length → names = es.map idOf := by subst hn; exact (filter_names h).2
  by_cases c3 : (names.length != es.length || names.eraseDups.length != names.length) = true
  · exact ⟨none, by rw [if_pos c3], .inl rfl⟩
  rw [if_neg c3]
  by_cases c4 : (us.all (foldedForSure 8)) = true
  · exact ⟨none, by rw [if_pos c4], .inl rfl⟩
  rw [if_neg c4]
  have c5 : ¬ (us.all (constantsAlone 8)) = true := by
    simp only [plainTup, Bool.or_eq_true, Bool.not_eq_true'] at hp
    rcases hp with hp | hp
    · rw [hp]; exact Bool.false_ne_true
    · exact absurd hp c4
  rw [if_neg c5]
  refine ⟨some names, rfl, .inr ?_⟩
  have : names.length = es.length := by
    simp only [Bool.or_eq_true, bne_iff_ne, ne_eq, not_or, Classical.not_not] at c3
    exact c3.1
  rw [F this]
theorem direct_stores {M' : Model} {E : Value → Shared → Prop} : ∀ (L : List (Expr × Nat × AV × Value)) (loc : Loc) (s : Shared) (Qu : Unit → Shared → Prop), (∀ q ∈ L, q.1 = .Name (idOf q.1) (posOf q.1) ∧ vs[q.2.1]? = some (idOf q.1) ∧ VM ρ q.2.2.1 q.2.2.2) → Here w base n A env nm vs loc ρ H s →
    (∀ h' tk, ExtF env ρ s.heap ρ h' → LR env vs (putAll (L.map fun q => (q.2.1, idOf q.1, q.2.2.1, q.2.2.2)) loc) ρ h' → St base ρ H h' → Qu () { s with heap := h', toks := tk }) → wpAny M' A (assignInOrder (L.map fun q => assign q.1 env) (L.map fun q => q.2.2.2)) Qu E s
  | [], loc, s, Qu, hL, hh, k => wpAny_pure (k s.heap s.toks (Ext.refl ..).toF hh.lr hh.st)
  | q :: L, loc, s, Qu, hL, hh, k => by
    obtain ⟨h0, h1, h2⟩ := hL q (List.mem_cons_self ..)
    show wpAny _ _ (holding _ (assign q.1 env q.2.2.2) >>= fun _ => assignInOrder (L.map fun q => assign q.1 env) (L.map fun q => q.2.2.2)) _ _ _
    rw [h0, PySem.assign_Name]
    refine wpAny_bind (wpAny_holding (wpAny_bind (wpAny_standAt (store_sound hh h1 h2 fun h' tk x1 F1 S1 => ?_))))
    refine direct_stores L (loc.set q.2.1 (some q.2.2.1)) { s with heap := h', toks := tk } Qu (fun t ht => hL t (List.mem_cons_of_mem _ ht)) (hh.stepF S1 F1) fun h2 tk2 x2 F2 S2 => ?_
    exact k h2 tk2 (x1.trans S1 F1 x2) F2 S2
theorem trips_ok {xs : List Nat} {ids : List Str} {us : List AV} {its : List Value} (h1 : ∀ p ∈ xs.zip ids, vs[p.1]? = some p.2) (m : VMs ρ us its) : ∀ t ∈ xs.zip (ids.zip (us.zip its)), vs[t.1]? = some t.2.1 ∧ VM ρ t.2.2.1 t.2.2.2 := by
  intro t ht
  obtain ⟨i, hi, e⟩ := List.getElem_of_mem ht
  simp only [List.getElem_zip] at e
  subst e
  simp only [List.length_zip] at hi
  refine ⟨h1 (xs[i]'(om443 hi), ids[i]'(om444 hi)) (List.mem_iff_getElem.mpr ⟨i, by simp; exact om445 hi, by simp⟩), ?_⟩
  · have hu : i < us.length := by exact om446 hi
    obtain ⟨v, e1, m1⟩ := m.get (List.getElem?_eq_getElem hu)
    rw [List.getElem?_eq_getElem (om447 hi)] at e1
    cases e1; exact m1
theorem zip_fst_inj {xs : List Nat} {α : Type} {ys : List α} (hd : xs.Nodup) : ∀ a ∈ xs.zip ys, ∀ b ∈ xs.zip ys, a.1 = b.1 → a = b := by
  intro a ha b hb e
  obtain ⟨i, hi, ea⟩ := List.getElem_of_mem ha
  obtain ⟨j, hj, eb⟩ := List.getElem_of_mem hb
  simp only [List.getElem_zip] at ea eb
  simp only [List.length_zip] at hi hj
  subst ea eb
  have : i = j := (List.getElem_inj hd).mp e
  subst this; rfl
theorem map_snd {xs : List Nat} {ids : List Str} {us : List AV} {its : List Value} (l1 : ids.length = xs.length) (l2 : us.length = xs.length) (l3 : its.length = xs.length) : (xs.zip (ids.zip (us.zip its))).map (fun t => t.2.2.2) = its := by
  apply List.ext_getElem
  · simp; exact om448 l1 l2 l3
  · intro i h1 h2; simp
theorem map_ids {β : Type} {f : Str → β} {xs : List Nat} {ids : List Str} {us : List AV} {its : List Value} (l1 : ids.length = xs.length) (l2 : us.length = xs.length) (l3 : its.length = xs.length) : (xs.zip (ids.zip (us.zip its))).map (fun t => f t.2.1) = ids.map f := by
  apply List.ext_getElem
  · simp; exact om449 l1 l2 l3
  · intro i h1 h2; simp
theorem S_assignT {xs : List Nat} {e : IE} (he : ES w base n Γ e) : SS w base n Γ (.assignT xs e) := fun nm vs x env A loc ρ H s QS Qf hc h hh C => by
  replace hc := isAsg_inv hc
  obtain ⟨ts, y, pos, rfl, hc⟩ := hc
  replace hc := one_inv hc
  obtain ⟨tt, rfl, hc⟩ := hc
  replace hc := isTup_inv hc
  obtain ⟨es, c, tp, rfl, hc⟩ := hc
  simp only [Bool.and_eq_true, decide_eq_true_eq] at hc
  obtain ⟨⟨⟨⟨c1, c2⟩, c3⟩, c4⟩, c5⟩ := hc
  obtain ⟨n1, n2, n3⟩ := names_of c1
  have hs : swapsWithSole [.Tuple es c tp] y pos.line env = pure false := by
    cases y <;> first | rfl | (exact absurd c4 Bool.false_ne_true)
  obtain ⟨r, hr, hr2⟩ := swapped_cases (env := env) (c := c) (tp := tp) n3 c3
  rw [arm_exec_Assign, hs]
  refine nBind (nStand (nBind (nPure (nBind (he _ _ _ _ _ _ _ _ _ _ _ c5 h hh fun ρ1 H1 v v' h1 tk1 q1 x1 S1 m1 => ?_)))))
  refine nBind (nOf_eq hr ?_)
  cases v <;> first | exact False.elim q1 | skip
  obtain ⟨us, e1, lu, q1⟩ := q1
  obtain ⟨a, o, rfl, ha, g1, its, k, rfl, mi⟩ := St.look (s := { s with heap := h1, toks := tk1 }) S1 m1 e1
  have li : its.length = xs.length := by rw [mi.length, lu]
  have hh1 := hh.step (tk := tk1) x1 S1
  have tupA : ({ s with heap := h1, toks := tk1 } : Shared).heap.IsTuple a its.toArray := ⟨_, g1, rfl, k, rfl⟩
  have items : ∀ (Qi : List Value → Shared → Prop), (∀ h2, (∀ b o, h1.get? b = some o → h2.get? b = some o) → Qi its { s with heap := h2, toks := tk1 }) → wpAny (M w) A (unpackItems (.ref a) xs.length none) Qi (fun _ _ => False) { s with heap := h1, toks := tk1 } := fun Qi hq => by
    have := wpAny_unpackItems_tuple (prog := pw) (w := w) (A := A) (E := fun _ _ => False) (Q := Qi) hh.aok.hand tupA fun h2 he2 => by
      have := hq h2 fun b o e => he2 b o (Nat.ne_of_lt (Heap.lt_size e)) e
      simpa using this
    rw [show its.toArray.size = xs.length from by rw [List.size_toArray, li]] at this
    exact this
  have l1 : (es.map idOf).length = xs.length := by rw [List.length_map, n1]
  have fin : ∀ (h2 h3 : Heap) (tk3 : Nat), (∀ b o, h1.get? b = some o → h2.get? b = some o) → ExtF env ρ1 h2 ρ1 h3 → LR env vs (setAll xs us loc) ρ1 h3 → St base ρ1 H1 h3 → Qf .next { s with heap := h3, toks := tk3 } := fun h2 h3 tk3 k2 x3 F3 S3 => by
    have F1 := hh.lr.ext x1
    have x2 : Ext ρ1 h1 ρ1 h2 := Ext.grown k2
    have S2 := S1.grown k2
    exact C .next _ ρ1 H1 .next h3 tk3 q1 ((x1.toF.trans S1 F1 x2.toF).trans S2 (F1.ext x2) x3) F3 S3 rfl
  have hset := setAll_put xs (es.map idOf) us its loc l1 lu li
  have trip := trips_ok (vs := vs) (ρ := ρ1) n2 mi
  rcases hr2 with rfl | rfl
  · show wpN _ _ (assign (.Tuple es c tp) env (.ref a) >>= fun _ => pure Flow.next) _ _
    rw [arm_assign_Tuple, each_names n3]
    unfold unpack
    have hfi : (es.map fun e => (false, assign e env)).findIdx? (·.1) = none := by
      rw [List.findIdx?_eq_none_iff]; intro p hp
      obtain ⟨e, _, rfl⟩ := List.mem_map.mp hp; rfl
    rw [hfi, show (es.map fun e => (false, assign e env)).length = xs.length from by rw [List.length_map, n1]]
    refine nBind (nBind (nStand (nBind (nHolding (nAny (items _ fun h2 k2 => ?_))))))
    have x2 : Ext ρ1 h1 ρ1 h2 := Ext.grown k2
    have hh2 : Here w base n A env nm vs loc ρ1 H1 { s with heap := h2, toks := tk1 } := hh1.step (tk := tk1) x2 (S1.grown k2)
    have z := direct_stores (M' := M w) (A := A) (E := fun _ _ => False) (es.zip (xs.zip (us.zip its))) loc { s with heap := h2, toks := tk1 } (fun _ s' => wpN (M w) A (pure Flow.next) Qf s') (fun q hq => by
      obtain ⟨i, hi, eq⟩ := List.getElem_of_mem hq
      simp only [List.getElem_zip] at eq
      simp only [List.length_zip] at hi
      subst eq
      refine ⟨n3 _ (List.getElem_mem _), ?_⟩
      have t1 := trip _ (List.mem_iff_getElem.mpr ⟨i, by simp; exact om450 hi, rfl⟩)
      simpa using t1) hh2 fun h3 tk3 x3 F3 S3 => by
      have e2 : putAll ((es.zip (xs.zip (us.zip its))).map fun q => (q.2.1, idOf q.1, q.2.2.1, q.2.2.2)) loc = setAll xs us loc := by
        rw [hset]
        congr 1
        apply List.ext_getElem
        · simp; exact om451
        · intro i h1 h2; simp
      rw [e2] at F3
      exact nPure (fin h2 h3 tk3 k2 x3 F3 S3)
    have e3 : (es.zip (xs.zip (us.zip its))).map (fun q => assign q.1 env) = (es.map fun e => (false, assign e env)).map (·.2) := by
      apply List.ext_getElem
      · simp; exact om452 n1 lu li
      · intro i h1 h2; simp
    have e4 : (es.zip (xs.zip (us.zip its))).map (fun q => q.2.2.2) = its := by
      apply List.ext_getElem
      · simp; exact om453 n1 lu li
      · intro i h1 h2; simp
    rw [e3, e4] at z
    exact nAny z
  · show wpN _ _ (rule "assign.swapped-stores" >>= fun _ => unpackItems (.ref a) (es.map idOf).length none >>= fun items => assignInOrder ((es.map idOf).reverse.map fun n => bindName env n) items.reverse >>= fun _ => pure Flow.next) _ _
    rw [l1]
    refine nBind (nRule (nBind (nAny (items _ fun h2 k2 => ?_))))
    have x2 : Ext ρ1 h1 ρ1 h2 := Ext.grown k2
    have hh2 : Here w base n A env nm vs loc ρ1 H1 { s with heap := h2, toks := tk1 } := hh1.step (tk := tk1) x2 (S1.grown k2)
    refine nBind (nAny ?_)
    have p := List.reverse_perm (xs.zip ((es.map idOf).zip (us.zip its)))
    have z := stores_sound (M' := M w) (A := A) (E := fun _ _ => False) (fun x v => bindName env x v) (fun _ _ _ _ h => h) ((xs.zip ((es.map idOf).zip (us.zip its))).reverse) loc { s with heap := h2, toks := tk1 } (fun _ s' => wpN (M w) A (pure Flow.next) Qf s') (fun t ht => trip t (List.mem_reverse.mp ht)) hh2 fun h3 tk3 x3 F3 S3 => by
      rw [putAll_perm p (fun a ha b hb => zip_fst_inj c2 a (List.mem_reverse.mp ha) b (List.mem_reverse.mp hb)), ← hset] at F3
      exact nPure (fin h2 h3 tk3 k2 x3 F3 S3)
    rw [List.map_reverse, List.map_reverse, map_snd l1 lu li, map_ids (f := fun x v => bindName env x v) l1 lu li] at z
    rw [← List.map_reverse] at z
    exact z
end
end Mine
end
section
open PySem PySem.W PySem.Calls PyProof.Rows
open PySem.Sem (wp)
set_option maxHeartbeats 2000000
namespace Mine
section
variable {w : World} {base : Heap} {n : Nat} {Γ : Orc}
mutual
theorem soundS (hO : OrcOk w base n Γ) : ∀ st : IS, SS w base n Γ st
  | .assign x e => S_assign (soundE hO e).1
  | .assignT xs e => S_assignT (soundE hO e).1
  | .setAttr o a e => S_setAttr (soundE hO o).1 (soundE hO e).1
  | .setItem o i e => S_setItem (soundE hO o).1 (soundE hO i).1 (soundE hO e).1
  | .aug x op e => S_aug (soundE hO e).1
  | .expr e => S_expr (soundE hO e).1
  | .ret e => S_ret (soundE hO e).1
  | .ifs t a b => S_ifs (soundE hO t).2 (soundSs hO a) (soundSs hO b)
  | .whil t b => S_whil (soundE hO t).2 (soundSs hO b)
  | .forL x e b => S_forL (soundE hO e).1 (soundSs hO b)
  | .forR x e b => S_forR (soundE hO e).1 (soundSs hO b)
  | .forR3 x a k st b => S_forR3 (soundE hO a).1 (soundE hO k).1 (soundE hO st).1 (soundSs hO b)
  | .bad => fun nm vs x env A loc ρ H s QS Qf hc h hh C => False.elim h
theorem soundSs (hO : OrcOk w base n Γ) : ∀ l : ISs, SSs w base n Γ l
  | .nil => S_nil
  | .cons st r => S_cons (soundS hO st) (soundSs hO r)
end
end
end Mine
end
section
open PySem PySem.W PySem.Calls PyProof.Rows
open PySem.Sem (wp)
set_option maxHeartbeats 2000000
namespace Mine
structure FnOk (P : Params) (f : Addr) (vars : List Str) (np : Nat) (body : ISs) : Prop where
  ex : ∃ oc od fd sl stmts, (K P).lookup f = some ⟨oc, od, .func fd, sl⟩ ∧ fd.scope.isCoroutine = false ∧ fd.scope.isGenerator = false ∧ fd.scope.kind = .function ∧ fd.body = .stmts stmts ∧ codeIn (K P) fd.code fd.qualname = true ∧ fd.closure = [] ∧ fd.globals = mainGlobals ∧ fd.builtins = builtinsNs ∧
    ckSs fd.scope.names vars body stmts = true ∧ vars.Nodup ∧ vars.all (fun x => fd.scope.names.lookup x == some .local || fd.scope.names.lookup x == some .cell) = true ∧ np ≤ vars.length ∧
    (∀ vals : List Value, vals.length = np → bindArgs fd ⟨vals, []⟩ = pure ((vars.take np).zip vals))
theorem bindL_out {kindOf : Str → Option NameKind} {x : Str} : ∀ (l : List (Str × Value)) (m : Str → Option Value), (∀ p ∈ l, p.1 ≠ x) → bindL kindOf l m x = m x
  | [], m, _ => rfl
  | (n, v) :: r, m, h => by
    unfold bindL
    rw [bindL_out r _ fun p hp => h p (List.mem_cons_of_mem _ hp)]
    split
    · exact if_neg (Ne.symm (h _ (List.mem_cons_self ..)))
    · rfl
theorem bindL_at {kindOf : Str → Option NameKind} {x : Str} {v : Value} (hk : kindOf x = some .local) : ∀ (l : List (Str × Value)) (m : Str → Option Value), (l.map (·.1)).Nodup → (x, v) ∈ l → bindL kindOf l m x = some v
  | (n, u) :: r, m, hd, h => by
    simp only [List.map_cons, List.nodup_cons] at hd
    unfold bindL
    rcases List.mem_cons.mp h with h2 | h2
    · cases h2
      rw [bindL_out r _ fun p hp q => hd.1 (List.mem_map.mpr ⟨p, hp, q⟩), if_pos hk, if_pos rfl]
    · exact bindL_at hk r _ hd.2 h2
theorem bindC_out {kindOf : Str → Option NameKind} {x : Str} : ∀ (l : List (Str × Value)) (m : Str → Option Value), (∀ p ∈ l, p.1 ≠ x) → bindC kindOf l m x = m x
  | [], m, _ => rfl
  | (n, v) :: r, m, h => by
    unfold bindC
    rw [bindC_out r _ fun p hp => h p (List.mem_cons_of_mem _ hp)]
    split
    · rfl
    · exact if_neg (Ne.symm (h _ (List.mem_cons_self ..)))
theorem bindC_at {kindOf : Str → Option NameKind} {x : Str} {v : Value} (hk : kindOf x ≠ some .local) : ∀ (l : List (Str × Value)) (m : Str → Option Value), (l.map (·.1)).Nodup → (x, v) ∈ l → bindC kindOf l m x = some v
  | (n, u) :: r, m, hd, h => by
    simp only [List.map_cons, List.nodup_cons] at hd
    unfold bindC
    rcases List.mem_cons.mp h with h2 | h2
    · cases h2
      rw [bindC_out r _ fun p hp q => hd.1 (List.mem_map.mpr ⟨p, hp, q⟩), if_neg hk, if_pos rfl]
    · exact bindC_at hk r _ hd.2 h2
theorem apart_inj {cs : List (Str × Addr)} (h : cs.Pairwise fun x y => x.2 ≠ y.2) {a b : Str × Addr} (ha : a ∈ cs) (hb : b ∈ cs) (e : a.2 = b.2) : a = b := by
  induction cs with
  | nil => cases ha
  | cons c r ih =>
    obtain ⟨h1, h2⟩ := List.pairwise_cons.mp h
    rcases List.mem_cons.mp ha with ea | ha2 <;> rcases List.mem_cons.mp hb with eb | hb2
    · rw [ea, eb]
    · subst ea; exact absurd e (h1 _ hb2)
    · subst eb; exact absurd e.symm (h1 _ ha2)
    · exact ih h2 ha2 hb2
section
variable {w : World} {base : Heap} {n : Nat} {Γ : Orc} {A : Around} {env : Env} {nm : NM} {vs : List Str} {loc loc' : Loc} {ρ ρ' : List Addr} {H H' : AH} {s : Shared} {Q : PQ} {Qc : Value → Shared → Prop}
theorem codeN_func {body : List Stmt} {Qd : Flow → Shared → Prop} (h : wpN (M w) (A.deeper env) (execs body env) (fun f s' => Qd (.ret (match f with | .ret v => v | _ => .none)) s') s) : codeN (M w) A (.func body env) Qd s := by
  refine codeN_tree rfl ?_
  show wpN _ (A.deeper env) (do point; match ← (execs body env).onRaise (leaving env) with | .ret v => ret v | _ => ret .none) _ s
  refine nBind (nPoint (nBind (nOnRaise (nMono h fun f s' h' => ?_))))
  cases f <;> exact nPure h'
theorem call_sound {f : Addr} {vars : List Str} {np : Nat} {body : ISs} {as : List AV} {as' : List Value} (F : FnOk w.params f vars np body) (hA : AOkC (n + 1) A) (hO : OrcOk w base n Γ) (g : Gb w base) (hlen : as.length = np)
    (h : WSs Γ body (locOf vars as) H fun fl _ H' => match fl with | .next => Q .none H' | .ret v => Q v H') (S : St base ρ H s.heap) (ms : VMs ρ as as') (C : Cont base ρ s Q Qc) : wpN (M w) A (call (.ref f) as') Qc s := by
  obtain ⟨oc, od, fd, sl, stmts, e1, e2, e3, e4, e5, e6, e7, e8, e9, e10, e11, e12, e13, e14⟩ := F.ex
  have X := S.K g
  have ho := X _ _ e1
  have hcd := codeRec_of X e6
  have hlim := g.lim.keeps S.keep
  have lm := ms.length
  refine nCall (codeN_tree rfl ?_)
  show wpN _ A.in1 (callAny (.ref f) ⟨as', []⟩) _ s
  simp only [callAny]
  refine nBind (nLoad ho ?_)
  obtain ⟨c, ocd, vsd, tq, hc, hoc, hdc, hq⟩ := hcd
  simp only [callFunction, e2, e3, e5, hc]
  refine nBind (nAny (t := field (.ref c) 1) (wpAny_field hoc hdc hq ?_))
  refine nBind (nPure ?_)
  rw [e14 as' (lm.trans hlen), e7, e8, e9]
  have eqb : ∀ x ∈ (vars.take np).zip as', x.1 ∈ vars := fun x hx => List.mem_of_mem_take (List.of_mem_zip hx).1
  have kinds : ∀ x ∈ vars, fd.scope.names.lookup x = some .local ∨ fd.scope.names.lookup x = some .cell := fun x hx => by
    have := List.all_eq_true.mp e12 x hx
    simpa using this
  refine nBind (nPure (nBind (nAny (wpAny_newFunctionEnv_cells e4 (fun x hx => (kinds x.1 (eqb x hx)).imp id fun q => ⟨q, cellsFrom_some _ _ _ (.inl q)⟩) fun env he s' x => ?_))))
  obtain ⟨⟨⟨h1, tk1, rfl⟩, xns, xk, xf⟩, xc, xa, xab⟩ := x
  refine nBind (nAny (wpAny_enterFrame (hlim.keeps xk) (by have := hA.deep; show A.depth < _; exact om459 this) ?_))
  refine nPure ⟨rfl, codeN_func ?_⟩
  have eL : env.locals = s.heap.objs.size := by rw [he]; rfl
  have eC : env.cells = cellsFrom (s.heap.objs.size + 1) fd.scope.names [] := by rw [he]; rfl
  have eS : env.scope = fd.scope := by rw [he]; rfl
  have fresh : ∀ b o, s.heap.get? b = some o → b ≠ env.locals ∧ ∀ z, env.cells.lookup z ≠ some b := fun b o e => by
    have hb := Heap.lt_size e
    refine ⟨fun q => ?_, fun z q => ?_⟩
    · rw [eL] at q; subst q; exact Nat.lt_irrefl _ hb
    · have := xab z b (PySem.mem_of_lookup q)
      rw [eL] at this
      exact Nat.lt_irrefl _ (Nat.lt_trans hb this)
  have noR : ∀ a, s.heap.objs.size ≤ a → a ∉ ρ := fun a ha hm => by
    obtain ⟨o, e⟩ := S.alive hm
    exact absurd (Heap.lt_size e) (Nat.not_lt.mpr ha)
  have S1 : St base ρ H h1 := S.grown xk
  have lr : LR env vars (locOf vars as) ρ h1 := by
    refine ⟨by rw [eS]; exact e4, by rw [he]; rfl, by rw [he]; rfl, e11, fun z hz => ?_, fun z c e => ?_, fun z z' c q1 q2 => ?_, noR _ (by rw [eL]; exact Nat.le_refl _), _, xns, fun i z v q1 q2 => ?_⟩
    · rcases kinds z hz with q | q
      · exact .inl (by unfold Env.kindOf; rw [eS]; exact q)
      · exact .inr ⟨by unfold Env.kindOf; rw [eS]; exact q, by rw [eC]; exact cellsFrom_some _ _ _ (.inl q)⟩
    · have := xab z c (PySem.mem_of_lookup e)
      rw [eL] at this
      exact ⟨⟨_, xc z c e⟩, noR _ (Nat.le_of_lt this), by rw [eL]; exact Ne.symm (Nat.ne_of_lt this)⟩
    · have := apart_inj xa (PySem.mem_of_lookup q1) (PySem.mem_of_lookup q2) rfl
      exact congrArg (·.1) this
    · unfold locOf at q2
      have hi : i < as.length := by
        rcases Nat.lt_or_ge i as.length with hlt | hge
        · exact hlt
        · rw [List.getElem?_append_right (by simpa using hge), List.getElem?_replicate] at q2
          split at q2 <;> cases q2
      rw [List.getElem?_append_left (by simpa using hi), List.getElem?_map, List.getElem?_eq_getElem hi] at q2
      simp only [Option.map_some, Option.some.injEq] at q2
      subst q2
      obtain ⟨v', q3, mv⟩ := ms.get (List.getElem?_eq_getElem hi)
      have hz : z ∈ vars := List.mem_of_getElem? q1
      have hnd : (((vars.take np).zip as').map (·.1)).Nodup := by
        rw [List.map_fst_zip (by simp; exact om460 hlen lm)]
        exact e11.sublist (List.take_sublist _ _)
      have hmem : (z, v') ∈ (vars.take np).zip as' := by
        obtain ⟨hi2, q4⟩ := List.getElem?_eq_some_iff.mp q3
        obtain ⟨hi3, q5⟩ := List.getElem?_eq_some_iff.mp q1
        refine List.mem_iff_getElem.mpr ⟨i, by simp; exact om461 hlen e13 lm hi, ?_⟩
        simp [q4, q5]
      refine ⟨v', mv, ?_⟩
      rcases kinds z hz with q | q
      · have kz : env.kindOf z = some .local := by unfold Env.kindOf; rw [eS]; exact q
        exact .inl ⟨kz, bindL_at kz _ _ hnd hmem⟩
      · have kz : env.kindOf z = some .cell := by unfold Env.kindOf; rw [eS]; exact q
        obtain ⟨c, hc⟩ := Option.isSome_iff_exists.mp (cellsFrom_some fd.scope.names (s.heap.objs.size + 1) [] (.inl q))
        refine .inr ⟨kz, c, by rw [eC]; exact hc, ?_⟩
        have := xc z c (by rw [eC]; exact hc)
        rwa [bindC_at (by rw [kz]; decide) _ _ hnd hmem] at this
  have hh : Here w base n (A.deeper env) env fd.scope.names vars (locOf vars as) ρ H { s with heap := h1, toks := tk1 } :=
    ⟨g, ⟨hA.hand, by have := hA.deep; show A.depth + 1 + 3 * n < _; exact om462 this, by have := hA.room; show A.units + 3 + 20 * n + 200 < _; exact om463 this⟩, ⟨by rw [eS], fun y o e => fresh y o (S.keep y o e), fun y hy => by rw [eC]; exact cellsFrom_some _ _ _ (.inl hy)⟩, lr, S1⟩
  refine soundSs hO body _ _ _ _ _ _ _ _ _ _ _ e10 h hh fun fl l2 ρ2 H2 fl' h2 tk2 q x2 F2 S2 m => ?_
  have xx : Ext ρ s.heap ρ2 h2 := by
    obtain ⟨new, en, hn⟩ := x2.grow
    refine ⟨⟨new, en, fun a ha => ?_⟩, fun b o e hb => x2.keep b o (xk b o e) hb (fresh b o e).1 (fresh b o e).2⟩
    cases q : s.heap.get? a with
    | none => rfl
    | some o => have := xk a o q; rw [hn a ha] at this; cases this
  cases fl with
  | next => cases m; exact C ρ2 H2 .none .none h2 tk2 q xx S2 rfl
  | ret v =>
    obtain ⟨v', rfl, mv⟩ := m
    exact C ρ2 H2 v v' h2 tk2 q xx S2 mv
end
end Mine
end
section
open PySem PySem.W PySem.Calls PyProof.Rows
namespace Mine
noncomputable def fdOf (P : Params) (f : Addr) : FuncData := match (K P).lookup f with
  | some ⟨_, _, .func fd, _⟩ => fd
  | _ => default
noncomputable def fnCheck (P : Params) (f : Addr) (vars : List Str) (np : Nat) (body : ISs) : Bool := match (K P).lookup f with
  | some ⟨_, _, .func fd, _⟩ => !fd.scope.isCoroutine && (!fd.scope.isGenerator && (fd.scope.kind == .function && ((match fd.body with | .stmts ss => ckSs fd.scope.names vars body ss | _ => false) && (codeIn (K P) fd.code fd.qualname && (fd.closure.isEmpty && (fd.globals == mainGlobals && (fd.builtins == builtinsNs &&
      (decide vars.Nodup && (vars.all (fun x => fd.scope.names.lookup x == some .local || fd.scope.names.lookup x == some .cell) && decide (np ≤ vars.length))))))))))
  | _ => false
theorem fnOk_of {P : Params} {f : Addr} {vars : List Str} {np : Nat} {body : ISs} (h : fnCheck P f vars np body = true) (hb : ∀ vals : List Value, vals.length = np → bindArgs (fdOf P f) ⟨vals, []⟩ = pure ((vars.take np).zip vals)) : FnOk P f vars np body := by
  unfold fnCheck at h
  unfold fdOf at hb
  split at h
  · rename_i oc od fd sl e
    rw [e] at hb
    simp only [Bool.and_eq_true, Bool.not_eq_true', beq_iff_eq, decide_eq_true_eq, List.isEmpty_iff] at h
    obtain ⟨h1, h2, h3, h4, h5, h6, h7, h8, h9, h10, h11⟩ := h
    cases hbd : fd.body with
    | stmts ss => rw [hbd] at h4; exact ⟨oc, od, fd, sl, ss, e, h1, h2, h3, hbd, h5, h6, h7, h8, h4, h9, h10, h11, hb⟩
    | expr x => rw [hbd] at h4; cases h4
  · cases h
theorem binds0 {g : List Value → Sem (List (Str × Value))} {r : List Value → Sem (List (Str × Value))} (h : g [] = r []) (vals : List Value) (hl : vals.length = 0) : g vals = r vals := by
  match vals, hl with | [], _ => exact h
theorem binds1 {g : List Value → Sem (List (Str × Value))} {r : List Value → Sem (List (Str × Value))} (h : ∀ a, g [a] = r [a]) (vals : List Value) (hl : vals.length = 1) : g vals = r vals := by
  match vals, hl with | [a], _ => exact h a
theorem binds2 {g : List Value → Sem (List (Str × Value))} {r : List Value → Sem (List (Str × Value))} (h : ∀ a b, g [a, b] = r [a, b]) (vals : List Value) (hl : vals.length = 2) : g vals = r vals := by
  match vals, hl with | [a, b], _ => exact h a b
theorem binds3 {g : List Value → Sem (List (Str × Value))} {r : List Value → Sem (List (Str × Value))} (h : ∀ a b c, g [a, b, c] = r [a, b, c]) (vals : List Value) (hl : vals.length = 3) : g vals = r vals := by
  match vals, hl with | [a, b, c], _ => exact h a b c
theorem binds4 {g : List Value → Sem (List (Str × Value))} {r : List Value → Sem (List (Str × Value))} (h : ∀ a b c d, g [a, b, c, d] = r [a, b, c, d]) (vals : List Value) (hl : vals.length = 4) : g vals = r vals := by
  match vals, hl with | [a, b, c, d], _ => exact h a b c d
theorem binds5 {g : List Value → Sem (List (Str × Value))} {r : List Value → Sem (List (Str × Value))} (h : ∀ a b c d e, g [a, b, c, d, e] = r [a, b, c, d, e]) (vals : List Value) (hl : vals.length = 5) : g vals = r vals := by
  match vals, hl with | [a, b, c, d, e], _ => exact h a b c d e
theorem ck_two_at (P : Params) : fnCheck P 72 vs_two_at 2 ir_two_at = true := by kernel_rfl
theorem bd_two_at (P : Params) : ∀ a b : Value, bindArgs (fdOf P 72) ⟨[a, b], []⟩ = pure ((vs_two_at.take 2).zip [a, b]) := by intro a b; kernel_rfl
theorem fn_two_at (P : Params) : FnOk P 72 vs_two_at 2 ir_two_at := fnOk_of (ck_two_at P) (binds2 (bd_two_at P))

theorem ck_four_at (P : Params) : fnCheck P 79 vs_four_at 2 ir_four_at = true := by kernel_rfl
theorem bd_four_at (P : Params) : ∀ a b : Value, bindArgs (fdOf P 79) ⟨[a, b], []⟩ = pure ((vs_four_at.take 2).zip [a, b]) := by intro a b; kernel_rfl
theorem fn_four_at (P : Params) : FnOk P 79 vs_four_at 2 ir_four_at := fnOk_of (ck_four_at P) (binds2 (bd_four_at P))

theorem ck_put_two (P : Params) : fnCheck P 86 vs_put_two 3 ir_put_two = true := by kernel_rfl
theorem bd_put_two (P : Params) : ∀ a b c : Value, bindArgs (fdOf P 86) ⟨[a, b, c], []⟩ = pure ((vs_put_two.take 3).zip [a, b, c]) := by intro a b c; kernel_rfl
theorem fn_put_two (P : Params) : FnOk P 86 vs_put_two 3 ir_put_two := fnOk_of (ck_put_two P) (binds3 (bd_put_two P))

theorem ck_put_four (P : Params) : fnCheck P 93 vs_put_four 3 ir_put_four = true := by kernel_rfl
theorem bd_put_four (P : Params) : ∀ a b c : Value, bindArgs (fdOf P 93) ⟨[a, b, c], []⟩ = pure ((vs_put_four.take 3).zip [a, b, c]) := by intro a b c; kernel_rfl
theorem fn_put_four (P : Params) : FnOk P 93 vs_put_four 3 ir_put_four := fnOk_of (ck_put_four P) (binds3 (bd_put_four P))

theorem ck_four_octets (P : Params) : fnCheck P 100 vs_four_octets 1 ir_four_octets = true := by kernel_rfl
theorem bd_four_octets (P : Params) : ∀ a : Value, bindArgs (fdOf P 100) ⟨[a], []⟩ = pure ((vs_four_octets.take 1).zip [a]) := by intro a; kernel_rfl
theorem fn_four_octets (P : Params) : FnOk P 100 vs_four_octets 1 ir_four_octets := fnOk_of (ck_four_octets P) (binds1 (bd_four_octets P))

theorem ck_is_leaf (P : Params) : fnCheck P 107 vs_is_leaf 1 ir_is_leaf = true := by kernel_rfl
theorem bd_is_leaf (P : Params) : ∀ a : Value, bindArgs (fdOf P 107) ⟨[a], []⟩ = pure ((vs_is_leaf.take 1).zip [a]) := by intro a; kernel_rfl
theorem fn_is_leaf (P : Params) : FnOk P 107 vs_is_leaf 1 ir_is_leaf := fnOk_of (ck_is_leaf P) (binds1 (bd_is_leaf P))

theorem ck_head_size (P : Params) : fnCheck P 114 vs_head_size 1 ir_head_size = true := by kernel_rfl
theorem bd_head_size (P : Params) : ∀ a : Value, bindArgs (fdOf P 114) ⟨[a], []⟩ = pure ((vs_head_size.take 1).zip [a]) := by intro a; kernel_rfl
theorem fn_head_size (P : Params) : FnOk P 114 vs_head_size 1 ir_head_size := fnOk_of (ck_head_size P) (binds1 (bd_head_size P))

theorem ck_put_varint (P : Params) : fnCheck P 121 vs_put_varint 1 ir_put_varint = true := by kernel_rfl
theorem bd_put_varint (P : Params) : ∀ a : Value, bindArgs (fdOf P 121) ⟨[a], []⟩ = pure ((vs_put_varint.take 1).zip [a]) := by intro a; kernel_rfl
theorem fn_put_varint (P : Params) : FnOk P 121 vs_put_varint 1 ir_put_varint := fnOk_of (ck_put_varint P) (binds1 (bd_put_varint P))

theorem ck_get_varint (P : Params) : fnCheck P 128 vs_get_varint 2 ir_get_varint = true := by kernel_rfl
theorem bd_get_varint (P : Params) : ∀ a b : Value, bindArgs (fdOf P 128) ⟨[a, b], []⟩ = pure ((vs_get_varint.take 2).zip [a, b]) := by intro a b; kernel_rfl
theorem fn_get_varint (P : Params) : FnOk P 128 vs_get_varint 2 ir_get_varint := fnOk_of (ck_get_varint P) (binds2 (bd_get_varint P))

theorem ck_cost (P : Params) : fnCheck P 135 vs_cost 1 ir_cost = true := by kernel_rfl
theorem bd_cost (P : Params) : ∀ a : Value, bindArgs (fdOf P 135) ⟨[a], []⟩ = pure ((vs_cost.take 1).zip [a]) := by intro a; kernel_rfl
theorem fn_cost (P : Params) : FnOk P 135 vs_cost 1 ir_cost := fnOk_of (ck_cost P) (binds1 (bd_cost P))

theorem ck_total (P : Params) : fnCheck P 140 vs_total 1 ir_total = true := by kernel_rfl
theorem bd_total (P : Params) : ∀ a : Value, bindArgs (fdOf P 140) ⟨[a], []⟩ = pure ((vs_total.take 1).zip [a]) := by intro a; kernel_rfl
theorem fn_total (P : Params) : FnOk P 140 vs_total 1 ir_total := fnOk_of (ck_total P) (binds1 (bd_total P))

theorem ck_base_of (P : Params) : fnCheck P 147 vs_base_of 1 ir_base_of = true := by kernel_rfl
theorem bd_base_of (P : Params) : ∀ a : Value, bindArgs (fdOf P 147) ⟨[a], []⟩ = pure ((vs_base_of.take 1).zip [a]) := by intro a; kernel_rfl
theorem fn_base_of (P : Params) : FnOk P 147 vs_base_of 1 ir_base_of := fnOk_of (ck_base_of P) (binds1 (bd_base_of P))

theorem ck_capacity (P : Params) : fnCheck P 154 vs_capacity 3 ir_capacity = true := by kernel_rfl
theorem bd_capacity (P : Params) : ∀ a b c : Value, bindArgs (fdOf P 154) ⟨[a, b, c], []⟩ = pure ((vs_capacity.take 3).zip [a, b, c]) := by intro a b c; kernel_rfl
theorem fn_capacity (P : Params) : FnOk P 154 vs_capacity 3 ir_capacity := fnOk_of (ck_capacity P) (binds3 (bd_capacity P))

theorem ck_child_of (P : Params) : fnCheck P 161 vs_child_of 1 ir_child_of = true := by kernel_rfl
theorem bd_child_of (P : Params) : ∀ a : Value, bindArgs (fdOf P 161) ⟨[a], []⟩ = pure ((vs_child_of.take 1).zip [a]) := by intro a; kernel_rfl
theorem fn_child_of (P : Params) : FnOk P 161 vs_child_of 1 ir_child_of := fnOk_of (ck_child_of P) (binds1 (bd_child_of P))

theorem ck_with_child (P : Params) : fnCheck P 168 vs_with_child 2 ir_with_child = true := by kernel_rfl
theorem bd_with_child (P : Params) : ∀ a b : Value, bindArgs (fdOf P 168) ⟨[a, b], []⟩ = pure ((vs_with_child.take 2).zip [a, b]) := by intro a b; kernel_rfl
theorem fn_with_child (P : Params) : FnOk P 168 vs_with_child 2 ir_with_child := fnOk_of (ck_with_child P) (binds2 (bd_with_child P))

theorem ck_leaf_rowid (P : Params) : fnCheck P 175 vs_leaf_rowid 1 ir_leaf_rowid = true := by kernel_rfl
theorem bd_leaf_rowid (P : Params) : ∀ a : Value, bindArgs (fdOf P 175) ⟨[a], []⟩ = pure ((vs_leaf_rowid.take 1).zip [a]) := by intro a; kernel_rfl
theorem fn_leaf_rowid (P : Params) : FnOk P 175 vs_leaf_rowid 1 ir_leaf_rowid := fnOk_of (ck_leaf_rowid P) (binds1 (bd_leaf_rowid P))

theorem ck_Content___init__ (P : Params) : fnCheck P 189 vs_Content___init__ 4 ir_Content___init__ = true := by kernel_rfl
theorem bd_Content___init__ (P : Params) : ∀ a b c d : Value, bindArgs (fdOf P 189) ⟨[a, b, c, d], []⟩ = pure ((vs_Content___init__.take 4).zip [a, b, c, d]) := by intro a b c d; kernel_rfl
theorem fn_Content___init__ (P : Params) : FnOk P 189 vs_Content___init__ 4 ir_Content___init__ := fnOk_of (ck_Content___init__ P) (binds4 (bd_Content___init__ P))

theorem ck_fits (P : Params) : fnCheck P 210 vs_fits 3 ir_fits = true := by kernel_rfl
theorem bd_fits (P : Params) : ∀ a b c : Value, bindArgs (fdOf P 210) ⟨[a, b, c], []⟩ = pure ((vs_fits.take 3).zip [a, b, c]) := by intro a b c; kernel_rfl
theorem fn_fits (P : Params) : FnOk P 210 vs_fits 3 ir_fits := fnOk_of (ck_fits P) (binds3 (bd_fits P))

theorem ck_write_content (P : Params) : fnCheck P 217 vs_write_content 3 ir_write_content = true := by kernel_rfl
theorem bd_write_content (P : Params) : ∀ a b c : Value, bindArgs (fdOf P 217) ⟨[a, b, c], []⟩ = pure ((vs_write_content.take 3).zip [a, b, c]) := by intro a b c; kernel_rfl
theorem fn_write_content (P : Params) : FnOk P 217 vs_write_content 3 ir_write_content := fnOk_of (ck_write_content P) (binds3 (bd_write_content P))

theorem ck_append_chain (P : Params) : fnCheck P 224 vs_append_chain 2 ir_append_chain = true := by kernel_rfl
theorem bd_append_chain (P : Params) : ∀ a b : Value, bindArgs (fdOf P 224) ⟨[a, b], []⟩ = pure ((vs_append_chain.take 2).zip [a, b]) := by intro a b; kernel_rfl
theorem fn_append_chain (P : Params) : FnOk P 224 vs_append_chain 2 ir_append_chain := fnOk_of (ck_append_chain P) (binds2 (bd_append_chain P))

theorem ck_packed_rows (P : Params) : fnCheck P 231 vs_packed_rows 2 ir_packed_rows = true := by kernel_rfl
theorem bd_packed_rows (P : Params) : ∀ a b : Value, bindArgs (fdOf P 231) ⟨[a, b], []⟩ = pure ((vs_packed_rows.take 2).zip [a, b]) := by intro a b; kernel_rfl
theorem fn_packed_rows (P : Params) : FnOk P 231 vs_packed_rows 2 ir_packed_rows := fnOk_of (ck_packed_rows P) (binds2 (bd_packed_rows P))

theorem ck_packed_between (P : Params) : fnCheck P 238 vs_packed_between 2 ir_packed_between = true := by kernel_rfl
theorem bd_packed_between (P : Params) : ∀ a b : Value, bindArgs (fdOf P 238) ⟨[a, b], []⟩ = pure ((vs_packed_between.take 2).zip [a, b]) := by intro a b; kernel_rfl
theorem fn_packed_between (P : Params) : FnOk P 238 vs_packed_between 2 ir_packed_between := fnOk_of (ck_packed_between P) (binds2 (bd_packed_between P))

theorem ck_new_pages (P : Params) : fnCheck P 243 vs_new_pages 2 ir_new_pages = true := by kernel_rfl
theorem bd_new_pages (P : Params) : ∀ a b : Value, bindArgs (fdOf P 243) ⟨[a, b], []⟩ = pure ((vs_new_pages.take 2).zip [a, b]) := by intro a b; kernel_rfl
theorem fn_new_pages (P : Params) : FnOk P 243 vs_new_pages 2 ir_new_pages := fnOk_of (ck_new_pages P) (binds2 (bd_new_pages P))

theorem ck_store_leaves (P : Params) : fnCheck P 248 vs_store_leaves 3 ir_store_leaves = true := by kernel_rfl
theorem bd_store_leaves (P : Params) : ∀ a b c : Value, bindArgs (fdOf P 248) ⟨[a, b, c], []⟩ = pure ((vs_store_leaves.take 3).zip [a, b, c]) := by intro a b c; kernel_rfl
theorem fn_store_leaves (P : Params) : FnOk P 248 vs_store_leaves 3 ir_store_leaves := fnOk_of (ck_store_leaves P) (binds3 (bd_store_leaves P))

theorem ck_store_inner (P : Params) : fnCheck P 253 vs_store_inner 4 ir_store_inner = true := by kernel_rfl
theorem bd_store_inner (P : Params) : ∀ a b c d : Value, bindArgs (fdOf P 253) ⟨[a, b, c, d], []⟩ = pure ((vs_store_inner.take 4).zip [a, b, c, d]) := by intro a b c d; kernel_rfl
theorem fn_store_inner (P : Params) : FnOk P 253 vs_store_inner 4 ir_store_inner := fnOk_of (ck_store_inner P) (binds4 (bd_store_inner P))

theorem ck_PageStore___init__ (P : Params) : fnCheck P 267 vs_PageStore___init__ 2 ir_PageStore___init__ = true := by kernel_rfl
theorem bd_PageStore___init__ (P : Params) : ∀ a b : Value, bindArgs (fdOf P 267) ⟨[a, b], []⟩ = pure ((vs_PageStore___init__.take 2).zip [a, b]) := by intro a b; kernel_rfl
theorem fn_PageStore___init__ (P : Params) : FnOk P 267 vs_PageStore___init__ 2 ir_PageStore___init__ := fnOk_of (ck_PageStore___init__ P) (binds2 (bd_PageStore___init__ P))

theorem ck_PageStore_page_count (P : Params) : fnCheck P 274 vs_PageStore_page_count 1 ir_PageStore_page_count = true := by kernel_rfl
theorem bd_PageStore_page_count (P : Params) : ∀ a : Value, bindArgs (fdOf P 274) ⟨[a], []⟩ = pure ((vs_PageStore_page_count.take 1).zip [a]) := by intro a; kernel_rfl
theorem fn_PageStore_page_count (P : Params) : FnOk P 274 vs_PageStore_page_count 1 ir_PageStore_page_count := fnOk_of (ck_PageStore_page_count P) (binds1 (bd_PageStore_page_count P))

theorem ck_PageStore_read_page (P : Params) : fnCheck P 281 vs_PageStore_read_page 2 ir_PageStore_read_page = true := by kernel_rfl
theorem bd_PageStore_read_page (P : Params) : ∀ a b : Value, bindArgs (fdOf P 281) ⟨[a, b], []⟩ = pure ((vs_PageStore_read_page.take 2).zip [a, b]) := by intro a b; kernel_rfl
theorem fn_PageStore_read_page (P : Params) : FnOk P 281 vs_PageStore_read_page 2 ir_PageStore_read_page := fnOk_of (ck_PageStore_read_page P) (binds2 (bd_PageStore_read_page P))

theorem ck_PageStore_write_page (P : Params) : fnCheck P 288 vs_PageStore_write_page 3 ir_PageStore_write_page = true := by kernel_rfl
theorem bd_PageStore_write_page (P : Params) : ∀ a b c : Value, bindArgs (fdOf P 288) ⟨[a, b, c], []⟩ = pure ((vs_PageStore_write_page.take 3).zip [a, b, c]) := by intro a b c; kernel_rfl
theorem fn_PageStore_write_page (P : Params) : FnOk P 288 vs_PageStore_write_page 3 ir_PageStore_write_page := fnOk_of (ck_PageStore_write_page P) (binds3 (bd_PageStore_write_page P))

theorem ck_PageStore_extend (P : Params) : fnCheck P 295 vs_PageStore_extend 1 ir_PageStore_extend = true := by kernel_rfl
theorem bd_PageStore_extend (P : Params) : ∀ a : Value, bindArgs (fdOf P 295) ⟨[a], []⟩ = pure ((vs_PageStore_extend.take 1).zip [a]) := by intro a; kernel_rfl
theorem fn_PageStore_extend (P : Params) : FnOk P 295 vs_PageStore_extend 1 ir_PageStore_extend := fnOk_of (ck_PageStore_extend P) (binds1 (bd_PageStore_extend P))

theorem ck__law_pool (P : Params) : fnCheck P 323 vs__law_pool 2 ir__law_pool = true := by kernel_rfl
theorem bd__law_pool (P : Params) : ∀ a b : Value, bindArgs (fdOf P 323) ⟨[a, b], []⟩ = pure ((vs__law_pool.take 2).zip [a, b]) := by intro a b; kernel_rfl
theorem fn__law_pool (P : Params) : FnOk P 323 vs__law_pool 2 ir__law_pool := fnOk_of (ck__law_pool P) (binds2 (bd__law_pool P))

theorem ck__law_take (P : Params) : fnCheck P 330 vs__law_take 2 ir__law_take = true := by kernel_rfl
theorem bd__law_take (P : Params) : ∀ a b : Value, bindArgs (fdOf P 330) ⟨[a, b], []⟩ = pure ((vs__law_take.take 2).zip [a, b]) := by intro a b; kernel_rfl
theorem fn__law_take (P : Params) : FnOk P 330 vs__law_take 2 ir__law_take := fnOk_of (ck__law_take P) (binds2 (bd__law_take P))

theorem ck__law_one (P : Params) : fnCheck P 337 vs__law_one 2 ir__law_one = true := by kernel_rfl
theorem bd__law_one (P : Params) : ∀ a b : Value, bindArgs (fdOf P 337) ⟨[a, b], []⟩ = pure ((vs__law_one.take 2).zip [a, b]) := by intro a b; kernel_rfl
theorem fn__law_one (P : Params) : FnOk P 337 vs__law_one 2 ir__law_one := fnOk_of (ck__law_one P) (binds2 (bd__law_one P))

theorem ck__law_four (P : Params) : fnCheck P 344 vs__law_four 1 ir__law_four = true := by kernel_rfl
theorem bd__law_four (P : Params) : ∀ a : Value, bindArgs (fdOf P 344) ⟨[a], []⟩ = pure ((vs__law_four.take 1).zip [a]) := by intro a; kernel_rfl
theorem fn__law_four (P : Params) : FnOk P 344 vs__law_four 1 ir__law_four := fnOk_of (ck__law_four P) (binds1 (bd__law_four P))

theorem ck__law_page (P : Params) : fnCheck P 351 vs__law_page 4 ir__law_page = true := by kernel_rfl
theorem bd__law_page (P : Params) : ∀ a b c d : Value, bindArgs (fdOf P 351) ⟨[a, b, c, d], []⟩ = pure ((vs__law_page.take 4).zip [a, b, c, d]) := by intro a b c d; kernel_rfl
theorem fn__law_page (P : Params) : FnOk P 351 vs__law_page 4 ir__law_page := fnOk_of (ck__law_page P) (binds4 (bd__law_page P))

theorem ck__law_used (P : Params) : fnCheck P 356 vs__law_used 1 ir__law_used = true := by kernel_rfl
theorem bd__law_used (P : Params) : ∀ a : Value, bindArgs (fdOf P 356) ⟨[a], []⟩ = pure ((vs__law_used.take 1).zip [a]) := by intro a; kernel_rfl
theorem fn__law_used (P : Params) : FnOk P 356 vs__law_used 1 ir__law_used := fnOk_of (ck__law_used P) (binds1 (bd__law_used P))

theorem ck__law_filled (P : Params) : fnCheck P 363 vs__law_filled 3 ir__law_filled = true := by kernel_rfl
theorem bd__law_filled (P : Params) : ∀ a b c : Value, bindArgs (fdOf P 363) ⟨[a, b, c], []⟩ = pure ((vs__law_filled.take 3).zip [a, b, c]) := by intro a b c; kernel_rfl
theorem fn__law_filled (P : Params) : FnOk P 363 vs__law_filled 3 ir__law_filled := fnOk_of (ck__law_filled P) (binds3 (bd__law_filled P))

theorem ck__law_room (P : Params) : fnCheck P 370 vs__law_room 2 ir__law_room = true := by kernel_rfl
theorem bd__law_room (P : Params) : ∀ a b : Value, bindArgs (fdOf P 370) ⟨[a, b], []⟩ = pure ((vs__law_room.take 2).zip [a, b]) := by intro a b; kernel_rfl
theorem fn__law_room (P : Params) : FnOk P 370 vs__law_room 2 ir__law_room := fnOk_of (ck__law_room P) (binds2 (bd__law_room P))

theorem ck__law_raws (P : Params) : fnCheck P 377 vs__law_raws 3 ir__law_raws = true := by kernel_rfl
theorem bd__law_raws (P : Params) : ∀ a b c : Value, bindArgs (fdOf P 377) ⟨[a, b, c], []⟩ = pure ((vs__law_raws.take 3).zip [a, b, c]) := by intro a b c; kernel_rfl
theorem fn__law_raws (P : Params) : FnOk P 377 vs__law_raws 3 ir__law_raws := fnOk_of (ck__law_raws P) (binds3 (bd__law_raws P))

theorem ck__law_due (P : Params) : fnCheck P 384 vs__law_due 5 ir__law_due = true := by kernel_rfl
theorem bd__law_due (P : Params) : ∀ a b c d e : Value, bindArgs (fdOf P 384) ⟨[a, b, c, d, e], []⟩ = pure ((vs__law_due.take 5).zip [a, b, c, d, e]) := by intro a b c d e; kernel_rfl
theorem fn__law_due (P : Params) : FnOk P 384 vs__law_due 5 ir__law_due := fnOk_of (ck__law_due P) (binds5 (bd__law_due P))

theorem ck__law_stored_right (P : Params) : fnCheck P 391 vs__law_stored_right 3 ir__law_stored_right = true := by kernel_rfl
theorem bd__law_stored_right (P : Params) : ∀ a b c : Value, bindArgs (fdOf P 391) ⟨[a, b, c], []⟩ = pure ((vs__law_stored_right.take 3).zip [a, b, c]) := by intro a b c; kernel_rfl
theorem fn__law_stored_right (P : Params) : FnOk P 391 vs__law_stored_right 3 ir__law_stored_right := fnOk_of (ck__law_stored_right P) (binds3 (bd__law_stored_right P))

theorem ck__law_chain_right (P : Params) : fnCheck P 396 vs__law_chain_right 2 ir__law_chain_right = true := by kernel_rfl
theorem bd__law_chain_right (P : Params) : ∀ a b : Value, bindArgs (fdOf P 396) ⟨[a, b], []⟩ = pure ((vs__law_chain_right.take 2).zip [a, b]) := by intro a b; kernel_rfl
theorem fn__law_chain_right (P : Params) : FnOk P 396 vs__law_chain_right 2 ir__law_chain_right := fnOk_of (ck__law_chain_right P) (binds2 (bd__law_chain_right P))

theorem ck__law_told_right (P : Params) : fnCheck P 401 vs__law_told_right 0 ir__law_told_right = true := by kernel_rfl
theorem bd__law_told_right (P : Params) : bindArgs (fdOf P 401) ⟨[], []⟩ = pure ((vs__law_told_right.take 0).zip []) := by kernel_rfl
theorem fn__law_told_right (P : Params) : FnOk P 401 vs__law_told_right 0 ir__law_told_right := fnOk_of (ck__law_told_right P) (binds0 (bd__law_told_right P))

theorem ck_law (P : Params) : fnCheck P 408 vs_law 1 ir_law = true := by kernel_rfl
theorem bd_law (P : Params) : ∀ a : Value, bindArgs (fdOf P 408) ⟨[a], []⟩ = pure ((vs_law.take 1).zip [a]) := by intro a; kernel_rfl
theorem fn_law (P : Params) : FnOk P 408 vs_law 1 ir_law := fnOk_of (ck_law P) (binds1 (bd_law P))

theorem tab_ok (P : Params) : ∀ p ∈ tab, FnOk P p.1 p.2.1 p.2.2.1 p.2.2.2 := by
  intro p hp
  simp only [tab, List.mem_cons, List.not_mem_nil, or_false] at hp
  rcases hp with rfl | rfl | rfl | rfl | rfl | rfl | rfl | rfl | rfl | rfl | rfl | rfl | rfl | rfl | rfl | rfl | rfl | rfl | rfl | rfl | rfl | rfl | rfl | rfl | rfl | rfl | rfl | rfl | rfl | rfl | rfl | rfl | rfl | rfl | rfl | rfl | rfl | rfl | rfl | rfl | rfl | rfl | rfl | rfl
  · exact fn_two_at P
  · exact fn_four_at P
  · exact fn_put_two P
  · exact fn_put_four P
  · exact fn_four_octets P
  · exact fn_is_leaf P
  · exact fn_head_size P
  · exact fn_put_varint P
  · exact fn_get_varint P
  · exact fn_cost P
  · exact fn_total P
  · exact fn_base_of P
  · exact fn_capacity P
  · exact fn_child_of P
  · exact fn_with_child P
  · exact fn_leaf_rowid P
  · exact fn_Content___init__ P
  · exact fn_fits P
  · exact fn_write_content P
  · exact fn_append_chain P
  · exact fn_packed_rows P
  · exact fn_packed_between P
  · exact fn_new_pages P
  · exact fn_store_leaves P
  · exact fn_store_inner P
  · exact fn_PageStore___init__ P
  · exact fn_PageStore_page_count P
  · exact fn_PageStore_read_page P
  · exact fn_PageStore_write_page P
  · exact fn_PageStore_extend P
  · exact fn__law_pool P
  · exact fn__law_take P
  · exact fn__law_one P
  · exact fn__law_four P
  · exact fn__law_page P
  · exact fn__law_used P
  · exact fn__law_filled P
  · exact fn__law_room P
  · exact fn__law_raws P
  · exact fn__law_due P
  · exact fn__law_stored_right P
  · exact fn__law_chain_right P
  · exact fn__law_told_right P
  · exact fn_law P
theorem gam_ok {w : World} {base : Heap} (g : Gb w base) : ∀ n, OrcOk w base n (Gam n)
  | 0 => fun A hA f vs H Q ρ s vs' Qc h S m C => h.elim
  | n + 1 => fun A hA f vs H Q ρ s vs' Qc h S m C => by
    obtain ⟨p, hp, rfl, hl, h⟩ := h
    exact call_sound (tab_ok w.params p hp) hA (gam_ok g n) g hl h S m C
end Mine
end
section
open PySem PySem.W PySem.Calls PyProof.Rows
open PySem.Sem (wp)
namespace Mine
theorem caller_nod : NoD ⟨.builtin "claim.caller" {}, none, none, [], none⟩ := ⟨by show decIds.contains "claim.caller" = false; decide +kernel, fun x hx => nomatch hx⟩
theorem ends_N {prog : Program} {w : World} {t : Sem PySem.Fin} {s : Shared} {R : Result → Shared → Prop} (hreg : s.asleep)
    (h : wpN (model prog w) callerA t (fun fin s' => ∃ f, fin = .done f ∧ (R (.ok f) s' ∧ leftWithCleanup s'.gens = false)) s) :
    ∃ n r s' s'', runN (denote table) prog w n s ⟨t, .builtin "claim.caller" {}, default, []⟩ = .halted (outcomeOf r) s' ∧
      schedN (denote table) prog w n (.single s ⟨t, .builtin "claim.caller" {}, default, []⟩) = .halted (outcomeOf r) s' ∧ s'.forget = s''.forget ∧ R r s'' := by
  obtain ⟨n, r, s₁, s₂, hs, hn, hfo, hR⟩ := wp_halts_full (M := model prog w) (R := R) hreg (by
    refine Sem.wp_mono (model prog w) _ t (fun fin p' s' h' => ?_) (fun _ _ _ h' => h'.elim) default s (h _ default caller_in caller_nod)
    obtain ⟨f, rfl, hf⟩ := h'
    exact hf)
  exact ⟨n, r, s₂, s₁, hn, hs, hfo, hR⟩
theorem callFrom_N {c : ClaimW} {tree : List Value → Sem PySem.Fin} {w : World} {s : Shared} {free : Addr → Prop} {gens : Prop} {kept : Heap → Prop} (hz : s.asleep) (hgens : s.gens = #[])
    (hspec : ∀ args, c.pre args = true → WData.layableAll args = true →
      ∀ ord : List DictEntry → List DictEntry, (∀ l, (ord l).Perm l) →
      ∃ vs s₁, layAllW c.records (classAt s.heap) w.params ord args s = some (vs, s₁) ∧
        wpN (model c.prog w) callerA (tree vs) (fun fin s' => ∃ f, fin = .done f ∧ (c.Ends s args vs s₁ (.ok f) s' ∧ s'.os = s.os ∧ AllBare s'.gens ∧ kept s'.heap)) s₁) :
    c.CallFrom (fun vs => ⟨tree vs, .builtin "claim.caller" {}, default, []⟩) w free gens kept s := by
  intro args hpre hlay ord hord
  obtain ⟨vs, s₁, hlaid, hcode⟩ := hspec args hpre hlay ord hord
  have hal := layAllW_rest _ _ _ hlaid
  obtain ⟨k, r, s', s'', hrun, hsched, hfo, hcase, hos, hkp⟩ := ends_N (prog := c.prog) (w := w) (t := tree vs) (s := s₁)
    (R := fun r s' => c.Ends s args vs s₁ r s' ∧ s'.os = s.os ∧ kept s'.heap)
    (Shared.asleep_of_life hal.2.2.2 hz)
    (nMono hcode (by
      rintro fin s' ⟨f, e, h1, h2, h3, h4⟩
      exact ⟨f, e, ⟨h1, h2, h4⟩, leftWithCleanup_false_of_bare h3⟩))
  obtain ⟨eh, _, _, eo, _⟩ := Shared.forget_eq hfo
  have hcase := hcase.congr eh
  have hkp : kept s'.heap := by first | exact eh ▸ hkp | (rw [eh] at hkp; exact hkp) | (rw [← eh] at hkp; exact hkp)
  rw [← eo] at hos
  have hlife : s'.heap.life = s.heap.life := (runN_life _ _ _ hrun).trans hal.2.2.2
  refine ⟨vs, s₁, hlaid, k, _, s', hsched, ?_, (fun _ i x hx => by rw [hgens] at hx; simp at hx), hkp, by rw [hlife], Shared.rest_eq hos⟩
  rcases hcase with ⟨v, rfl, d1, d2, d3, d4, d5⟩ | ⟨e, ob, cls, rfl, d1, d2, d3, d4, d5⟩
  · exact .inl ⟨v, rfl, d1, d2, d3, fun b o y _ => d4 b o y, d5⟩
  · exact .inr ⟨e, ob, cls, rfl, d1, d2, d3, d4, fun b o y _ => d5 b o y⟩
theorem open_N {r : RowW} {run : Value → List Value → Sem Value} {tree : List Value → Sem PySem.Fin} {q : Program} {loose defs kps : List Str} {writes : Bool} {Xt : Shared → Bool} {XP : (Str → Option Value) → Heap → Prop} {α : Type} {Yf : Shared → α} {Ya : World → α} {YP : World → Heap → Prop} {N : Nat}
    (left : LeftO r.prog q loose Xt Yf Ya N) (hY : ∀ w s, Yf s = Ya w → YP w s.heap) (hYk : ∀ w h h', YP w h → (∀ b o, h.get? b = some o → h'.get? b = some o) → YP w h') (hX : ∀ s, Xt s = true → XP (s.heap.nsMap mainGlobals) s.heap) (hXk : ∀ mg h h', XP mg h → (∀ b o, h.get? b = some o → h'.get? b = some o) → XP mg h')
    (hRf : ∀ s, Xt s = true → RecFacts r.records s.heap) (hwr : (!writes || r.records.isEmpty) = true) (ok : (chainsOk q && opensWell r.prog && (frees r && r.within.isEmpty)) = true) (hb : r.prog.bare) (hw : r.promised)
    (ht : ∀ vs (w : World) (s : Shared) mg f (Q : PySem.Fin → Shared → Prop), s.heap.Ns mainGlobals mg → mg r.name = some f → wpN (model r.prog w) callerA (run f vs) (fun v s' => Q (.done (.ret v)) s') s → wpN (model r.prog w) callerA (tree vs) Q s)
    (pin : ∀ w s, s.heap.isNs mainGlobals = true → Ground q loose [] XP w s (s.heap.nsMap mainGlobals) (s.heap.nsMap builtinsNs) s.heap → ∀ n ∈ defs, isTheDefsW r.prog s.heap n)
    (call : ∀ (w : World) (s₀ s₁ : Shared) (mg mb : Str → Option Value), Ground q loose r.records XP w s₀ mg mb s₁.heap → YP w s₁.heap → ∀ (args : List WData) (vs : List Value) (as : List Addr),
      r.claim.pre args = true → WData.layableAll args = true → Laid r.records w s₀ s₁ args vs as → sysModules < s₀.heap.objs.size → ∃ f, mg r.name = some f ∧
        wpN (model r.prog w) callerA (run f vs) (fun v s' => GoodWG r.claim (classAt s₀.heap) (ExcName.means s₀.heap) args s₁ (.ok (.ret v)) s') s₁) : r.claim.HoldsOpenBy (fun vs => ⟨tree vs, .builtin "claim.caller" {}, default, []⟩) defs kps writes := by
  obtain ⟨ok, k5⟩ := Bool.and_eq_true_iff.mp ok
  obtain ⟨hch, o1⟩ := Bool.and_eq_true_iff.mp ok
  obtain ⟨k5, k6⟩ := Bool.and_eq_true_iff.mp k5
  obtain ⟨hsame, hu, ha, hap, hm⟩ := frees_parts k5
  refine ⟨⟨hb, o1, by show r.makers.map _ = []; rw [hm]; rfl⟩, hw.witness, fun w => ⟨(left.behind hX hch w).1, fun s' hs' => ?_⟩⟩
  obtain ⟨s₀, hf, hg0, s, hT, hz, hgens, hg, G00, y⟩ := (left.behind (XP := fun mg h => XP mg h ∧ RecFacts r.records h) (fun s hs => ⟨hX s hs, hRf s hs⟩) hch w).2 s' hs'
  have G0 : Ground q loose [] XP w s (s.heap.nsMap mainGlobals) (s.heap.nsMap builtinsNs) s.heap := ⟨G00.T, G00.B, G00.D, G00.TE, G00.TD, G00.W, G00.X.1, G00.cls, G00.has, G00.apart, G00.once, G00.K⟩
  have RF := G00.X.2
  have hT' := hT
  refine ⟨s₀, hf, hg0, s, hT, pin w s hg G0, RF.1, RF.2.1, ?_⟩
  have hgens : s.gens = #[] := Array.eq_empty_of_size_eq_zero (beq_iff_eq.mp hgens)
  have G : Ground q loose r.records XP w s _ _ s.heap := RF.ground G0
  refine callFrom_N (c := r.claim) hz hgens fun args hpre hlay ord hord => ?_
  obtain ⟨⟨vs, s₁⟩, hlaid⟩ := Option.isSome_iff_exists.mp (layAllW_isSome (P := w.params) (ord := ord) G.has args r.args s (pre_splitW hpre).1)
  have keeps := layAllW_keeps _ _ _ hlaid
  have hal := layAllW_rest _ _ _ hlaid
  obtain ⟨as, hrd, hin, hold⟩ := reads_layAllW hord _ _ _ hlaid hlay s₁.heap (fun _ _ e => e)
  have L : Laid r.records w s s₁ args vs as := ⟨⟨ord, hord, hlaid⟩, hrd, hin, hold, keeps, hal.1.trans hgens, hal.2.2.1⟩
  have G₁ := G.keeps hXk keeps
  obtain ⟨f, hf, h⟩ := call w s s₁ _ _ G₁ (hYk _ _ _ (hY w s y) keeps) args vs as hpre hlay L G.low
  have hi := ident_freeW hu ha hap
  have hwi : r.claim.within = [] := List.isEmpty_iff.mp k6
  exact ⟨vs, s₁, hlaid, ht vs w s₁ _ f _ G₁.T.g hf (nMono h fun v s' g => ⟨_, rfl, have z := g.laid (c := r.claim) hsame hwi hi L; ⟨z.1, z.2.1, z.2.2, fun q => ⟨namesKept_of hT' hg kps keeps g.2.1.old, noTable hwr q⟩⟩⟩)⟩
abbrev WalkM (q : Program) (loose : List Str) (XP : (Str → Option Value) → Heap → Prop) (YP : World → Heap → Prop) (r : RowW) (d : DefRec) (kwd : List (Str × Expr)) : Prop :=
  ∀ (w : World) (s₀ s₁ : Shared) (mg mb : Str → Option Value), Ground q loose r.records XP w s₀ mg mb s₁.heap → YP w s₁.heap → ∀ (a : Addr), mg d.name = some (.ref a) → s₁.gens = #[] →
    ∀ (args : List WData) (vals : List Value) (as : List Addr), r.claim.pre args = true → WData.layableAll args = true → ReadsAllW r.records (classAt s₀.heap) s₁.heap vals args as → WellAll w.params s₁.heap vals args → (∀ a ∈ as, (a == sysModules) = false) →
      wpN (model r.prog w) callerA (PySem.call (.ref a) vals) (fun v s' => GoodWG r.claim (classAt s₀.heap) (ExcName.means s₀.heap) args s₁ (.ok (.ret v)) s') s₁
theorem holds_N {r : OpenRow} {q : Program} {loose : List Str} {Xt : Shared → Bool} {XP : (Str → Option Value) → Heap → Prop} {α : Type} {Yf : Shared → α} {Ya : World → α} {YP : World → Heap → Prop} {d : DefRec} {kwd : List (Str × Expr)} {N : Nat}
    (left : LeftO r.prog q loose Xt Yf Ya N) (hY : ∀ w s, Yf s = Ya w → YP w s.heap) (hYk : ∀ w h h', YP w h → (∀ b o, h.get? b = some o → h'.get? b = some o) → YP w h')
    (hX : ∀ s, Xt s = true → XP (s.heap.nsMap mainGlobals) s.heap) (hXk : ∀ mg h h', XP mg h → (∀ b o, h.get? b = some o → h'.get? b = some o) → XP mg h')
    (hdef : defOf q r.name = some (d, kwd)) (hp : r.prog.theDef r.name = some (d.params, d.body, d.scope)) (hk : kwWritten? d.params.kwonlyargs d.params.kw_defaults = some kwd) (hRf : ∀ s, Xt s = true → RecFacts r.records s.heap) (hwr : (!r.writes || r.records.isEmpty) = true)
    (k1 : r.wellSaid = true) (ok : (chainsOk q && opensWell r.prog && (frees r.toRowW && r.within.isEmpty)) = true) (hb : r.prog.bare) (hw : r.toRowW.promised)
    (call : WalkM q loose XP YP r.toRowW d kwd) : r.Holds := by
  refine ⟨k1, hw, open_N (r := r.toRowW) (run := fun f vs => PySem.call f vs) (tree := fun vs => do match ← nsGet mainNs r.name with
      | some f => do ret (← PySem.call f vs)
      | none => unsupported "claim.caller:no-such-global") left hY hYk hX hXk hRf hwr ok hb hw
    (fun vs w s mg f Q hg hf h => nBind (nAny (wpAny_nsGet hg (by rw [hf]; exact nBind (nMono h fun _ _ x => nPure x)))))
    (fun w s hg G n hn => ?_) fun w s₀ s₁ mg mb G Y args vs as hpre hlay L low => ?_⟩
  · obtain rfl : n = r.name := by split at hn <;> simp_all
    exact pinned_of_view hg G hdef hp hk
  · obtain ⟨a, o, pm, cd, doc, dV, kV, h1, h2, h3, h4, h5⟩ := G.fn hdef
    exact ⟨.ref a, h1, call w s₀ s₁ mg mb G Y a (defOf_name hdef ▸ h1) L.gens args vs as hpre hlay L.reads L.well (L.low low)⟩
theorem hdN (walk : WalkM qv loose (XL qv lv) (InK K) rr.toRowW dLaw []) : PySem.Challenge.rw_xw0236_01.Holds := by
  w_on
  refine holds_law (by kernel_rfl) fun said => ?_
  refine holds_N (r := rr) (q := qv) (loose := loose) (Xt := Xt) (XP := XL qv lv) (Yf := Yf) (Ya := Ya) (YP := InK K) (d := dLaw) (kwd := []) (N := 5446) left
    (InK.of (fun _ => by kernel_rfl)) InK.keeps (fun s e => xl_of s (Bool.and_eq_true_iff.mp e).1) XL.keeps (by kernel_rfl) (by rewrite [show rr.prog = pF from pw_eq]; kernel_rfl) (by kernel_rfl) (fun s e => recFacts_of (Bool.and_eq_true_iff.mp e).2) (by rfl)
    (by first | assumption | decide +kernel) (by decide +kernel) ⟨rfl, rfl, rfl, rfl, rfl, by decide +kernel⟩ ?hw walk
  case hw => w_witness2
end Mine
end
section
open PySem PySem.W PySem.Calls PyProof.Rows
open PySem.Sem (wp)
namespace Mine
noncomputable def intIn (P : Params) (p : Str × Int) : Bool := match nsIn (K P) mainGlobals p.1 with | some (some (.int i _)) => decide (i = p.2) | _ => false
noncomputable def refIn (P : Params) (p : Str × Addr) : Bool := match nsIn (K P) mainGlobals p.1 with | some (some (.ref a)) => decide (a = p.2) | _ => false
theorem top_ints (P : Params) : gints.all (intIn P) = true := by kernel_rfl
theorem top_funs (P : Params) : gfuns.all (refIn P) = true := by kernel_rfl
theorem top_clss (P : Params) : gclss.all (refIn P) = true := by kernel_rfl
theorem top_none (P : Params) (b : BI) : nsIn (K P) mainGlobals (biStr b) = some none := by cases b <;> kernel_rfl
theorem top_range (P : Params) : nsIn (K P) mainGlobals rangeStr = some none := by kernel_rfl
theorem top_blt (b : BI) : bootBuiltins (biStr b) = some (biVal b) := by cases b <;> kernel_rfl
theorem top_blt_range : bootBuiltins rangeStr = some (.type "range") := by kernel_rfl
theorem biStr_ne (b : BI) : biStr b ≠ "__name__" := by cases b <;> decide +kernel
theorem gb_of {w : World} {base : Heap} {mg mb : Str → Option Value} {p : Program} {ls : List Str} (X : (K w.params).In base) (T : TopRead p ls mg mb base) : Gb w base := by
  refine ⟨X, T.nolimit, mg, mb, T.g, T.b, fun id i h => ?_, fun id a h => ?_, fun id a h => ?_, fun b => ⟨mg_none_of X T.g (top_none _ b), (T.builtins _ (biStr_ne b)).trans (top_blt b)⟩, mg_none_of X T.g (top_range _), (T.builtins _ (by decide +kernel)).trans top_blt_range⟩
  · have := List.all_eq_true.mp (top_ints w.params) _ (lookup_mem h)
    unfold intIn at this
    split at this
    · rename_i i' t e
      simp only [decide_eq_true_eq] at this
      subst this
      exact ⟨t, mg_of X T.g e⟩
    · cases this
  · have := List.all_eq_true.mp (top_funs w.params) _ (lookup_mem h)
    unfold refIn at this
    split at this
    · rename_i a' e
      simp only [decide_eq_true_eq] at this
      subst this
      exact mg_of X T.g e
    · cases this
  · have := List.all_eq_true.mp (top_clss w.params) _ (lookup_mem h)
    unfold refIn at this
    split at this
    · rename_i a' e
      simp only [decide_eq_true_eq] at this
      subst this
      exact mg_of X T.g e
    · cases this
noncomputable def noLists (P : Params) : Bool := (K P).all fun p => match p.2 with | ⟨_, _, .seq _ _, _⟩ => false | _ => true
theorem no_lists (P : Params) : noLists P = true := by kernel_rfl
theorem lookup_memA {α : Type} : ∀ {l : List (Addr × α)} {y : Addr} {k : α}, l.lookup y = some k → (y, k) ∈ l
  | (n, k') :: r, y, k, h => by
    simp only [List.lookup_cons] at h
    by_cases q : y = n
    · subst q; simp at h; subst h; exact List.mem_cons_self ..
    · rw [show (y == n) = false from beq_false_of_ne q] at h
      exact List.mem_cons_of_mem _ (lookup_memA h)
theorem law_name (P : Params) : nsIn (K P) mainGlobals dLaw.name = some (some (.ref 408)) := by kernel_rfl
theorem ns_hide {h : Heap} {l a : Addr} {o : Obj} {m : Str → Option Value} {its : Array Value} {c : Nat} (ho : h.get? l = some o) (hd : o.data = .seq its c) (g : h.Ns a m) : (h.hide l).Ns a m := by
  obtain ⟨o', es, ep, e, d, r⟩ := g
  have hn : a ≠ l := fun q => by subst q; rw [ho] at e; cases e; rw [hd] at d; cases d
  exact ⟨o', es, ep, (Heap.hide_ne h hn).trans e, d, r⟩
theorem gb_hide {w : World} {h : Heap} {l : Addr} {o : Obj} {its : Array Value} {c : Nat} (ho : h.get? l = some o) (hd : o.data = .seq its c) (g : Gb w h) : Gb w (h.hide l) := by
  obtain ⟨mg, mb, g1, g2, r⟩ := g.ns
  refine ⟨fun a ob e => ?_, ?_, mg, mb, ns_hide ho hd g1, ns_hide ho hd g2, r⟩
  · have hn : a ≠ l := fun q => by
      subst q
      have e1 := g.X a ob e
      rw [ho] at e1; cases e1
      have := List.all_eq_true.mp (no_lists w.params) _ (lookup_memA e)
      obtain ⟨_, _, _, _⟩ := o
      cases hd
      cases this
    exact (Heap.hide_ne h hn).trans (g.X a ob e)
  · obtain ⟨mc, hn, hx⟩ := g.lim
    exact ⟨mc, ns_hide ho hd hn, hx⟩
theorem fin_N (hlaw : ∀ (ns : List Int) (ob : Obj), ns.length ≤ 63 → Gam 15 408 [.ref 0] [.frz ns ob] fun v H' => v = .bool true ∧ H'[0]? = some (.frz ns ob)) : PySem.Challenge.rw_xw0236_01.Holds := by
  refine hdN ?_
  intro w s₀ s₁ mg mb G Y a ha hg args vals as hpre hlay hrd hwl hlo
  have X : (K w.params).In s₁.heap := Y
  have g := gb_of X (topRead_of G.T)
  have ea : a = 408 := by
    have := mg_of X G.T.g (law_name w.params)
    rw [this] at ha; cases ha; rfl
  subst ea
  wrow_args hpre hlay hrd hwl hlo
  rename_i ns _ _ _ _ _ _ _ l its _ hL _ _ _ hI _ hc _
  obtain ⟨o, ho, hcl, c, hd⟩ := hL
  have g' := gb_hide ho hd g
  have S : St (s₁.heap.hide l) [l] [.frz ns o] s₁.heap := by
    refine ⟨fun b ob e => Heap.of_hide e, fun b hb => ?_, rfl, by simp, fun k x e => ?_⟩
    · cases List.mem_singleton.mp hb; exact Heap.hide_self ..
    · cases k with
      | zero => cases e; exact ⟨l, o, rfl, ho, rfl, hcl, its, c, hd, hI⟩
      | succ k => simp at e
  refine gam_ok g' 15 callerA ⟨rfl, by decide, by decide⟩ 408 [.ref 0] [.frz ns o] _ [l] s₁ [.ref l] _ (hlaw ns o (om464 hc)) S ⟨_, _, rfl, ⟨l, rfl, rfl⟩, rfl⟩ fun ρ' H' v v' h' tk q x S' m => ?_
  obtain ⟨rfl, q⟩ := q
  cases m
  have old : ∀ b ob, s₁.heap.get? b = some ob → h'.get? b = some ob := fun b ob e => by
    by_cases hb : b = l
    · subst hb
      obtain ⟨a', o', e1, e2, e3, _⟩ := S'.obj 0 _ q
      have := pre_get x.pre (n := 0) (a := b) rfl
      rw [this] at e1; cases e1
      rw [ho] at e; cases e
      rw [e2, e3]
    · exact x.keep b ob e (by simpa using hb)
  refine ⟨.inl ⟨.bool true, .bool true, [], rfl, fun _ => rfl, .bool true, ?_, fun _ => ⟨List.nodup_nil, fun _ h => nomatch h⟩⟩, .of_keep old, rfl, .of_eq hg⟩
  wrow_post
end Mine
end
section
open PySem PySem.W
namespace Mine
noncomputable def endQ (Q : PQ) (f : Fl) (_ : Loc) (H : AH) : Prop := Fl.rec (motive := fun _ => Prop) (Q .none H) (fun v => Q v H) f
theorem endQ_next {Q : PQ} {l : Loc} {H : AH} : endQ Q .next l H = Q .none H := rfl
theorem endQ_ret {Q : PQ} {l : Loc} {H : AH} {v : AV} : endQ Q (.ret v) l H = Q v H := rfl
theorem Ja {v : AV} {l : Loc} {k : AV → Prop} : vget (some v :: l) 0 k = k v := rfl
theorem Jb {a : Option AV} {l : Loc} {n : Nat} {k : AV → Prop} : vget (a :: l) (n + 1) k = vget l n k := rfl
noncomputable def iteH (A B : AH → Prop) (c : Bool) (H : AH) : Prop := if c then A H else B H
theorem iteH_true {A B : AH → Prop} {H : AH} : iteH A B true H = A H := rfl
theorem iteH_false {A B : AH → Prop} {H : AH} : iteH A B false H = B H := rfl
theorem iteH_pos {A B : AH → Prop} {H : AH} {p : Prop} [Decidable p] (h : p) (a : A H) : iteH A B (decide p) H := by unfold iteH; simpa [h] using a
theorem iteH_neg {A B : AH → Prop} {H : AH} {p : Prop} [Decidable p] (h : ¬ p) (b : B H) : iteH A B (decide p) H := by unfold iteH; simpa [h] using b
theorem iteH_dec {A B : AH → Prop} {H : AH} {p : Prop} [Decidable p] (a : p → A H) (b : ¬ p → B H) : iteH A B (decide p) H := by
  by_cases h : p
  · exact iteH_pos h (a h)
  · exact iteH_neg h (b h)
noncomputable def thenS (k : Loc → AH → Prop) (Q : SQ) (f : Fl) (loc : Loc) (H : AH) : Prop := Fl.rec (motive := fun _ => Prop) (k loc H) (fun w => Q (.ret w) loc H) f
theorem thenS_next {k : Loc → AH → Prop} {Q : SQ} {loc : Loc} {H : AH} : thenS k Q .next loc H = k loc H := rfl
theorem thenS_ret {k : Loc → AH → Prop} {Q : SQ} {loc : Loc} {H : AH} {w : AV} : thenS k Q (.ret w) loc H = Q (.ret w) loc H := rfl
theorem thenS_eq (k : Loc → AH → Prop) (Q : SQ) : (fun (f : Fl) (loc : Loc) (H : AH) => match f with | .next => k loc H | .ret w => Q (.ret w) loc H) = thenS k Q := by
  funext f loc H; cases f <;> rfl
theorem endQ_eq (Q : PQ) : (fun (f : Fl) (_ : Loc) (H : AH) => match f with | .next => Q .none H | .ret v => Q v H) = endQ Q := by
  funext f loc H; cases f <;> rfl
noncomputable def turnsS (Γ : Orc) (b : ISs) (ok : AH → Prop) (x : Nat) (vs : List AV) (loc : Loc) (H : AH) (Q : SQ) : Prop := turns (fun loc H Q => WSs Γ b loc H Q) ok x vs loc H Q
noncomputable def whilesS (Γ : Orc) (t : IE) (b : ISs) (n : Nat) (loc : Loc) (H : AH) (Q : SQ) : Prop := whiles (fun loc H Q => WT Γ t loc H Q) (fun loc H Q => WSs Γ b loc H Q) n loc H Q
noncomputable def compS (Γ : Orc) (elt : IE) (cap : Loc) (ok : AH → Prop) (vs acc : List AV) (H : AH) (Q : List AV → AH → Prop) : Prop := compTurns (fun v H Q => WE Γ elt (some v :: cap) H Q) ok vs acc H Q
theorem gam_go {n : Nat} {f : Addr} {vars : List Str} {np : Nat} {body : ISs} {vs : List AV} {H : AH} {Q : PQ} (i : Nat) (loc : Loc) (hm : tab[i]? = some (f, vars, np, body)) (hl : vs.length = np) (hloc : locOf vars vs = loc)
    (h : WSs (Gam n) body loc H (endQ Q)) : Gam (n + 1) f vs H Q := by
  refine ⟨_, List.mem_of_getElem? hm, rfl, hl, ?_⟩
  rw [← endQ_eq, ← hloc] at h
  exact h
theorem stepS {Γ : Orc} {s r : ISs} {st : IS} {loc : Loc} {H : AH} {QS : SQ} (e : s = .cons st r) (h : WS Γ st loc H (thenS (fun loc H => WSs Γ r loc H QS) QS)) : WSs Γ s loc H QS := by
  subst e
  show WS Γ st loc H (fun f loc H => match f with | .next => WSs Γ r loc H QS | .ret w => QS (.ret w) loc H)
  rw [thenS_eq]; exact h
theorem thenN {k : Loc → AH → Prop} {Q : SQ} {loc : Loc} {H : AH} (h : k loc H) : thenS k Q .next loc H := h
theorem thenR {k : Loc → AH → Prop} {Q : SQ} {loc : Loc} {H : AH} {w : AV} (h : Q (.ret w) loc H) : thenS k Q (.ret w) loc H := h
theorem endN {Q : PQ} {l : Loc} {H : AH} (h : Q .none H) : endQ Q .next l H := h
theorem endR {Q : PQ} {l : Loc} {H : AH} {v : AV} (h : Q v H) : endQ Q (.ret v) l H := h
theorem iteT {A B : AH → Prop} {H : AH} (h : A H) : iteH A B true H := h
theorem iteF {A B : AH → Prop} {H : AH} (h : B H) : iteH A B false H := h
theorem nilS {Γ : Orc} {loc : Loc} {H : AH} {QS : SQ} (h : QS .next loc H) : WSs Γ .nil loc H QS := h
section
variable {Γ : Orc} {loc : Loc} {H : AH} {Q : PQ} {QS : SQ} {QT : Bool → AH → Prop} {QL : List AV → AH → Prop} {a b c e o i lo hi elt src n t : IE} {l r args : IEs} {x y : Nat} {st : IS} {p q rs : ISs}
theorem Jc {k : Int → AH → Prop} {i : Int} : onInt k (.int i) H = (k i H) := rfl
theorem Jd {k : Nat → AH → Prop} {i : Nat} : onRef k (.ref i) H = (k i H) := rfl
theorem Je : WE Γ .none loc H Q = (Q .none H) := rfl
theorem Jf {u : Bool} : WE Γ (.bool u) loc H Q = (Q (.bool u) H) := rfl
theorem Jg {u : Int} : WE Γ (.int u) loc H Q = (Q (.int u) H) := rfl
theorem Jh {u : List UInt8} : WE Γ (.byt u) loc H Q = (Q (.byt u) H) := rfl
theorem Ji : WE Γ (.var x) loc H Q = (vget loc x fun v => Q v H) := rfl
theorem Jj {u : Int} : WE Γ (.glob u) loc H Q = (Q (.int u) H) := rfl
theorem Jk {op : BOp} : WE Γ (.bin op a b) loc H Q = (WE Γ a loc H fun x H => WE Γ b loc H fun y H => binA op x y H Q) := rfl
theorem Jl : WE Γ (.neg a) loc H Q = (WE Γ a loc H (onInt fun i H => Q (.int (-i)) H)) := rfl
theorem Jm : WE Γ (.ands l) loc H Q = (WAnd Γ l loc H Q) := rfl
theorem Jn : WE Γ (.ors l) loc H Q = (WOr Γ l loc H Q) := rfl
theorem Jo {op : COp} : WE Γ (.cmp op a b) loc H Q = (WE Γ a loc H fun x H => WE Γ b loc H fun y H => cmpA op x y H Q) := rfl
theorem Jp : WE Γ (.ite t a b) loc H Q = (WT Γ t loc H (iteH (fun H => WE Γ a loc H Q) (fun H => WE Γ b loc H Q))) := rfl
theorem Jq {f : Addr} : WE Γ (.call f args) loc H Q = (WEs Γ args loc H fun vs H => Γ f vs H Q) := rfl
theorem Jr {C : Addr} : WE Γ (.new C args) loc H Q = (WEs Γ args loc H fun vs H => ∃ f, initOf C = some f ∧ Γ f (.ref (H.length + 1) :: vs) (H ++ [.dict [], .inst C H.length]) fun r H' => r = .none ∧ Q (.ref (H.length + 1)) H') := rfl
theorem Js {k : BI} : WE Γ (.bi k args) loc H Q = (WEs Γ args loc H fun vs H => biA k vs H Q) := rfl
theorem Jt {m : MI} : WE Γ (.meth m o args) loc H Q = (WE Γ o loc H fun x H => recvA m x H ∧ WEs Γ args loc H fun vs H => methA m x vs H Q) := rfl
theorem Ju : WE Γ (.toB o n) loc H Q = (WE Γ o loc H (onInt fun i H => WE Γ n loc H fun k H => k = .int 2 ∧ (0 ≤ i ∧ i < 65536) ∧ Q (.byt [(i / 256).toNat.toUInt8, (i % 256).toNat.toUInt8]) H)) := rfl
theorem Jv {k : Nat} : WE Γ (.um k o args) loc H Q = (WE Γ o loc H (onRef fun r H => ∃ C d fs f, H[r]? = some (.inst C d) ∧ H[d]? = some (.dict fs) ∧ methOf C k = some f ∧ WEs Γ args loc H fun vs H => Γ f (.ref r :: vs) H Q)) := rfl
theorem Jw {k : AN} : WE Γ (.attr o k) loc H Q = (WE Γ o loc H fun x H => attrA x k H Q) := rfl
theorem Jx : WE Γ (.idx o i) loc H Q = (WE Γ o loc H fun x H => WE Γ i loc H fun k H => idxA x k H Q) := rfl
theorem Jy : WE Γ (.slcL o lo) loc H Q = (WE Γ o loc H fun x H => WE Γ lo loc H fun i H => slcL x i H Q) := rfl
theorem Jz : WE Γ (.slcH o hi) loc H Q = (WE Γ o loc H fun x H => WE Γ hi loc H fun j H => slcH x j H Q) := rfl
theorem J0 : WE Γ (.slcB o lo hi) loc H Q = (WE Γ o loc H fun x H => WE Γ lo loc H fun i H => WE Γ hi loc H fun j H => slcB x i j H Q) := rfl
theorem J1 : WE Γ (.list l) loc H Q = (WEs Γ l loc H fun vs H => vs.length < 1000 ∧ Q (.ref H.length) (H ++ [.list vs])) := rfl
theorem J2 : WE Γ (.tup l) loc H Q = (WEs Γ l loc H fun vs H => (vs.length < 1000 ∧ vs ≠ []) ∧ Q (.ref H.length) (H ++ [.tup vs])) := rfl
theorem J3 {caps : List Nat} : WE Γ (.compR caps elt n) loc H Q = (WE Γ n loc H (onInt fun k H => (0 ≤ k ∧ k < 100000) ∧ compS Γ elt (capsOf loc caps) (fun _ => True) ((List.range k.toNat).map fun (i : Nat) => AV.int i) [] H fun vs H' => Q (.ref H'.length) (H' ++ [.list vs]))) := rfl
theorem J4 {caps : List Nat} : WE Γ (.compL caps elt src) loc H Q = (WE Γ src loc H (onRef fun r H => ∃ vs, H[r]? = some (.list vs) ∧ vs.length < 100000 ∧ compS Γ elt (capsOf loc caps) (fun H => H[r]? = some (.list vs)) vs [] H fun ys H' => Q (.ref H'.length) (H' ++ [.list ys]))) := rfl
theorem J5 : WEs Γ .nil loc H QL = (QL [] H) := rfl
theorem J6 : WEs Γ (.cons e r) loc H QL = (WE Γ e loc H fun v H => WEs Γ r loc H fun vs H => QL (v :: vs) H) := rfl
theorem J7 : WAnd Γ (.cons e .nil) loc H Q = (WE Γ e loc H Q) := rfl
theorem J8 {e' : IE} : WAnd Γ (.cons e (.cons e' r)) loc H Q = (WE Γ e loc H fun v H => truA v H (iteH (fun H => WAnd Γ (.cons e' r) loc H Q) fun H => Q v H)) := rfl
theorem J9 : WOr Γ (.cons e .nil) loc H Q = (WE Γ e loc H Q) := rfl
theorem Wa {e' : IE} : WOr Γ (.cons e (.cons e' r)) loc H Q = (WE Γ e loc H fun v H => truA v H (iteH (fun H => Q v H) fun H => WOr Γ (.cons e' r) loc H Q)) := rfl
theorem Wb : WT Γ (.unot a) loc H QT = (WT Γ a loc H fun b H => QT (!b) H) := rfl
theorem Wc : WT Γ (.ands l) loc H QT = (WTs Γ l loc H QT) := rfl
theorem Wd : WT Γ (.ors l) loc H QT = (WTo Γ l loc H QT) := rfl
theorem We {op : COp} : WT Γ (.cmp op a b) loc H QT = (WE Γ a loc H fun x H => WE Γ b loc H fun y H => cmpA op x y H fun v H => truA v H QT) := rfl
theorem Wf : WT Γ (.var x) loc H QT = (vget loc x fun v => truA v H QT) := rfl
theorem Wg {u : Bool} : WT Γ (.bool u) loc H QT = (QT u H) := rfl
theorem Wh {f : Addr} : WT Γ (.call f args) loc H QT = (WEs Γ args loc H fun vs H => Γ f vs H fun v H => truA v H QT) := rfl
theorem Wi : WTs Γ .nil loc H QT = (QT true H) := rfl
theorem Wj : WTs Γ (.cons e r) loc H QT = (WT Γ e loc H (iteH (fun H => WTs Γ r loc H QT) fun H => QT false H)) := rfl
theorem Wk : WTo Γ .nil loc H QT = (QT false H) := rfl
theorem Wl : WTo Γ (.cons e r) loc H QT = (WT Γ e loc H (iteH (fun H => QT true H) fun H => WTo Γ r loc H QT)) := rfl
theorem Wm : WS Γ (.assign x e) loc H QS = (WE Γ e loc H fun v H => QS .next (loc.set x (some v)) H) := rfl
theorem Wn {xs : List Nat} : WS Γ (.assignT xs e) loc H QS = (WE Γ e loc H (onRef fun r H => ∃ vs, H[r]? = some (.tup vs) ∧ vs.length = xs.length ∧ QS .next (setAll xs vs loc) H)) := rfl
theorem Wo {k : AN} : WS Γ (.setAttr o k e) loc H QS = (WE Γ e loc H fun v H => WE Γ o loc H fun x H => setAttrA x k v H fun H => QS .next loc H) := rfl
theorem Wp : WS Γ (.setItem o i e) loc H QS = (WE Γ e loc H fun v H => WE Γ o loc H fun x H => WE Γ i loc H fun k H => setItemA x k v H fun H => QS .next loc H) := rfl
theorem Wq {op : BOp} : WS Γ (.aug x op e) loc H QS = ((op = .add ∨ op = .shr) ∧ vget loc x fun v => WE Γ e loc H fun y H => onInt2 (fun i j H => binA op (.int i) (.int j) H fun z H => QS .next (loc.set x (some z)) H) v y H) := rfl
theorem Wr : WS Γ (.expr e) loc H QS = (WE Γ e loc H fun v H => IsPrim v ∧ QS .next loc H) := rfl
theorem Ws : WS Γ (.ret e) loc H QS = (WE Γ e loc H fun v H => QS (.ret v) loc H) := rfl
theorem Wt : WS Γ (.ifs t p q) loc H QS = (WT Γ t loc H (iteH (fun H => WSs Γ p loc H QS) fun H => WSs Γ q loc H QS)) := rfl
theorem Wu : WS Γ (.whil t p) loc H QS = (∃ n, whilesS Γ t p n loc H QS) := rfl
theorem Wv : WS Γ (.forL x src p) loc H QS = (WE Γ src loc H (onRef fun r H => ∃ vs, H[r]? = some (.list vs) ∧ vs.length < 100000 ∧ turnsS Γ p (fun H => H[r]? = some (.list vs)) x vs loc H QS)) := rfl
theorem Ww : WS Γ (.forR x n p) loc H QS = (WE Γ n loc H (onInt fun k H => (-100000 < k ∧ k < 100000) ∧ turnsS Γ p (fun _ => True) x (upto 0 k 1) loc H QS)) := rfl
theorem Wx : WS Γ (.forR3 x a n c p) loc H QS = (WE Γ a loc H fun a H => WE Γ n loc H fun n H => WE Γ c loc H fun c H => onInt2 (fun a n H => onInt (fun st H => (0 ≤ a ∧ a < 100000 ∧ 0 ≤ n ∧ n < 100000 ∧ 0 < st ∧ st < 100000) ∧ turnsS Γ p (fun _ => True) x (upto a n st) loc H QS) c H) a n H) := rfl
theorem s_nil : WSs Γ .nil loc H QS = (QS .next loc H) := rfl
theorem Wy {k : Int → Int → AH → Prop} {a b : Int} : onInt2 k (.int a) (.int b) H = (k a b H) := rfl
theorem Wz {u : Bool} : truA (.bool u) H QT = (QT u H) := rfl
theorem W0 {u v : AV} : cmpA .eq u v H Q = (eqA u v H fun r => Q (.bool r) H) := rfl
theorem W1 {u v : Int} {K : Bool → Prop} : eqA (.int u) (.int v) H K = (K (decide (u = v))) := rfl
theorem W2 {f g : List UInt8} {K : Bool → Prop} : eqA (.byt f) (.byt g) H K = (K (decide (f = g))) := rfl
theorem W3 {u v : Int} : cmpA .ne (.int u) (.int v) H Q = (Q (.bool (u != v)) H) := rfl
theorem W4 {f g : List UInt8} : cmpA .ne (.byt f) (.byt g) H Q = (Q (.bool (f != g)) H) := rfl
theorem W5 {u v : Int} : cmpA .lt (.int u) (.int v) H Q = (Q (.bool (decide (u < v))) H) := rfl
theorem W6 {u v : Int} : cmpA .le (.int u) (.int v) H Q = (Q (.bool (decide (u ≤ v))) H) := rfl
theorem W7 {u v : Int} : cmpA .gt (.int u) (.int v) H Q = (Q (.bool (decide (u > v))) H) := rfl
theorem W8 {u v : Int} : cmpA .ge (.int u) (.int v) H Q = (Q (.bool (decide (u ≥ v))) H) := rfl
theorem W9 {u v : Int} : binA .add (.int u) (.int v) H Q = (Q (.int (u + v)) H) := rfl
theorem Za {u v : Int} : binA .sub (.int u) (.int v) H Q = (Q (.int (u - v)) H) := rfl
theorem Zb {u v : Int} : binA .mul (.int u) (.int v) H Q = ((u.natAbs < 2 ^ 64 ∨ v.natAbs < 2 ^ 64) ∧ Q (.int (u * v)) H) := rfl
theorem Zc {u v : Int} : binA .fdiv (.int u) (.int v) H Q = ((0 < v ∧ v < 1073741824) ∧ Q (.int (u / v)) H) := rfl
theorem Zd {u v : Int} : binA .mod (.int u) (.int v) H Q = (0 < v ∧ Q (.int (u % v)) H) := rfl
theorem Ze {u v : Int} : binA .band (.int u) (.int v) H Q = (Q (.int (Builtin.bitAnd u v)) H) := rfl
theorem Zf {u v : Int} : binA .bor (.int u) (.int v) H Q = (Q (.int (Builtin.bitOr u v)) H) := rfl
theorem Zg {u v : Int} : binA .shl (.int u) (.int v) H Q = ((0 ≤ v ∧ v ≤ 1000 ∧ u.natAbs < 2 ^ 64) ∧ Q (.int (u * 2 ^ v.toNat)) H) := rfl
theorem Zh {u v : Int} : binA .shr (.int u) (.int v) H Q = (0 ≤ v ∧ Q (.int (u / (2 ^ v.toNat))) H) := rfl
theorem Zi {u v : Int} : binA .pow (.int u) (.int v) H Q = ((0 ≤ v ∧ v ≤ 100 ∧ u.natAbs < 2 ^ 64) ∧ Q (.int (u ^ v.toNat)) H) := rfl
theorem Zj {f g : List UInt8} : binA .add (.byt f) (.byt g) H Q = (f.length + g.length < 100000 ∧ Q (.byt (f ++ g)) H) := rfl
theorem Zk {f : List UInt8} {v : Int} : binA .mul (.byt f) (.int v) H Q = (f.length = 1 ∧ 0 ≤ v ∧ v < 100000 ∧ Q (.byt (List.replicate v.toNat f).flatten) H) := rfl
theorem Zl {j k : Nat} : binA .add (.ref j) (.ref k) H Q = (∃ vs ws, H[j]? = some (.list vs) ∧ H[k]? = some (.list ws) ∧ vs.length + ws.length < 100000 ∧ Q (.ref H.length) (H ++ [.list (vs ++ ws)])) := rfl
theorem Zm {j : Nat} {v : Int} : binA .mul (.ref j) (.int v) H Q = (∃ w, H[j]? = some (.list [w]) ∧ 0 ≤ v ∧ v < 100000 ∧ Q (.ref H.length) (H ++ [.list (List.replicate v.toNat w)])) := rfl
theorem Zn {f : List UInt8} {v : Int} : idxA (.byt f) (.int v) H Q = ((0 ≤ v ∧ v < f.length ∧ f.length < 100000) ∧ Q (.int (f.getD v.toNat 0).toNat) H) := rfl
theorem Zo {f : List UInt8} {i j : Int} : slcB (.byt f) (.int i) (.int j) H Q = (f.length < 100000 ∧ Q (.byt (cut f (some i) (some j))) H) := rfl
theorem Zp {f : List UInt8} {i : Int} : slcL (.byt f) (.int i) H Q = (f.length < 100000 ∧ Q (.byt (cut f (some i) none)) H) := rfl
theorem Zq {f : List UInt8} {j : Int} : slcH (.byt f) (.int j) H Q = (f.length < 100000 ∧ Q (.byt (cut f none (some j))) H) := rfl
theorem Zr {k : Nat} {i : Int} : slcL (.ref k) (.int i) H Q = (∃ vs, H[k]? = some (.list vs) ∧ vs.length < 100000 ∧ Q (.ref H.length) (H ++ [.list (cut vs (some i) none)])) := rfl
theorem Zs {k : Nat} {j : Int} : slcH (.ref k) (.int j) H Q = (∃ vs, H[k]? = some (.list vs) ∧ vs.length < 100000 ∧ Q (.ref H.length) (H ++ [.list (cut vs none (some j))])) := rfl
theorem Zt {f : List UInt8} : biA .len [.byt f] H Q = (f.length < 100000 ∧ Q (.int f.length) H) := rfl
theorem Zu {u v : Int} : biA .max [.int u, .int v] H Q = (Q (.int (if u < v then v else u)) H) := rfl
theorem Zv {u : Int} : biA .int [.int u] H Q = (Q (.int u) H) := rfl
theorem Zw {b : Bool} : biA .int [.bool b] H Q = (Q (.int (if b then 1 else 0)) H) := rfl
theorem Zx {k : Nat} : biA .sum [.ref k] H Q = (∃ vs ns, H[k]? = some (.list vs) ∧ ints? vs = some ns ∧ Q (.int ns.sum) H) := rfl
theorem Zy {u : Int} : biA .bytes [.int u] H Q = ((0 ≤ u ∧ u < 100000) ∧ Q (.byt (List.replicate u.toNat 0)) H) := rfl
theorem Zz {f : List UInt8} : biA .bytes [.byt f] H Q = (f.length < 100000 ∧ Q (.byt f) H) := rfl
theorem Z0 {u : Int} : biA .barr [.int u] H Q = ((0 ≤ u ∧ u < 100000) ∧ Q (.ref H.length) (H ++ [.barr (List.replicate u.toNat 0)])) := rfl
theorem Z1 {k : Nat} : biA .list [.ref k] H Q = (∃ vs, H[k]? = some (.list vs) ∧ vs.length < 100000 ∧ Q (.ref H.length) (H ++ [.list vs])) := rfl
theorem Z2 {k : Nat} {w : AV} : methA .append (.ref k) [w] H Q = (∃ vs, H[k]? = some (.list vs) ∧ vs.length < 100000 ∧ Q .none (H.set k (.list (vs ++ [w])))) := rfl
theorem Z3 {k : Nat} : methA .pop (.ref k) [] H Q = (∃ vs v, H[k]? = some (.list (vs ++ [v])) ∧ vs.length < 100000 ∧ Q v (H.set k (.list vs))) := rfl
theorem Z4 {k : Nat} : methA .reverse (.ref k) [] H Q = (∃ vs, H[k]? = some (.list vs) ∧ vs.length < 100000 ∧ Q .none (H.set k (.list vs.reverse))) := rfl
theorem Z5 {k : Nat} : methA .join (.byt []) [.ref k] H Q = (∃ vs bs, H[k]? = some (.list vs) ∧ byts? vs = some bs ∧ bs.flatten.length < 100000 ∧ Q (.byt bs.flatten) H) := rfl
theorem Z6 {k : Nat} : recvA .append (.ref k) H = (∃ vs, H[k]? = some (.list vs)) := rfl
theorem Z7 {k : Nat} : recvA .pop (.ref k) H = (∃ vs, H[k]? = some (.list vs)) := rfl
theorem Z8 {k : Nat} : recvA .reverse (.ref k) H = (∃ vs, H[k]? = some (.list vs)) := rfl
theorem Z9 {f : List UInt8} : recvA .join (.byt f) H = (True) := rfl
theorem Da {x : Nat} {xs : List Nat} {v : AV} {vs : List AV} : setAll (x :: xs) (v :: vs) loc = (setAll xs vs (loc.set x (some v))) := rfl
theorem Db : setAll [] [] loc = (loc) := rfl
theorem Dc : (!true) = (false) := rfl
theorem Dd : (!false) = (true) := rfl
end
theorem turnsS_cons {Γ : Orc} {b : ISs} {ok : AH → Prop} {x : Nat} {v : AV} {r : List AV} {loc : Loc} {H : AH} {Q : SQ} : turnsS Γ b ok x (v :: r) loc H Q = (ok H ∧ WSs Γ b (loc.set x (some v)) H (thenS (fun loc' H' => turnsS Γ b ok x r loc' H' Q) Q)) := by
  rw [← thenS_eq]; rfl
theorem turnsS_nil {Γ : Orc} {b : ISs} {ok : AH → Prop} {x : Nat} {loc : Loc} {H : AH} {Q : SQ} : turnsS Γ b ok x [] loc H Q = (ok H ∧ Q .next loc H) := rfl
section
variable {H : AH} {Q : PQ} {QH : AH → Prop} {r j k : Nat} {vs ws : List AV} {v : AV}
theorem lt_lit {a b : Nat} (h : Nat.ble (a + 1) b = true) : a < b := Nat.le_of_ble_eq_true h
theorem x_idx {i : Nat} (hr : H[r]? = some (.list vs)) (hl : vs.length < 100000) (hv : vs[i]? = some v) (q : Q v H) : idxA (.ref r) (.int i) H Q := by
  have hlt : i < vs.length := (List.getElem?_eq_some_iff.mp hv).1
  refine Or.inl ⟨vs, v, hr, hl, ?_, ?_, q⟩
  · unfold inside; rw [if_neg om494]; exact om495 hlt
  · unfold place; rw [if_neg om494]; exact hv
theorem x_idxN {i : Nat} (hr : H[r]? = some (.list vs)) (hl : vs.length < 100000) (h0 : 0 < i) (h1 : i ≤ vs.length) (hv : vs[vs.length - i]? = some v) (q : Q v H) : idxA (.ref r) (.int (-(i : Int))) H Q := by
  refine Or.inl ⟨vs, v, hr, hl, ?_, ?_, q⟩
  · unfold inside; rw [if_pos (om496 h0)]; exact om497 h0 h1
  · unfold place; rw [if_pos (om496 h0)]
    rw [show (-(i : Int) + (vs.length : Int)).toNat = vs.length - i by exact om498]; exact hv
theorem x_last (hr : H[r]? = some (.list (vs ++ [v]))) (hl : vs.length < 99999) (q : Q v H) : idxA (.ref r) (.int (-1)) H Q :=
  x_idxN (i := 1) hr (by rw [List.length_append, List.length_singleton]; exact om499 hl) (by decide) (by simp) (by simp) q
theorem x_last2 {u : AV} (hr : H[r]? = some (.list (vs ++ [v, u]))) (hl : vs.length < 99998) (q : Q v H) : idxA (.ref r) (.int (-2)) H Q :=
  x_idxN (i := 2) hr (by rw [List.length_append]; simp; exact om500 hl) (by decide) (by simp) (by simp) q
theorem x_frz {ns : List Int} {ob : Obj} {i m : Int} (hr : H[r]? = some (.frz ns ob)) (hl : ns.length < 100000) (h0 : 0 ≤ i) (hv : ns[i.toNat]? = some m) (q : Q (.int m) H) : idxA (.ref r) (.int i) H Q := Or.inr ⟨ns, ob, m, hr, hl, h0, hv, q⟩
theorem x_len (hr : H[r]? = some (.list vs)) (hl : vs.length < 100000) (q : Q (.int vs.length) H) : biA .len [.ref r] H Q := Or.inl ⟨vs, hr, hl, q⟩
theorem x_lenF {ns : List Int} {ob : Obj} (hr : H[r]? = some (.frz ns ob)) (hl : ns.length < 100000) (q : Q (.int ns.length) H) : biA .len [.ref r] H Q := Or.inr ⟨ns, ob, hr, hl, q⟩
theorem x_bytes {ns : List Int} (hr : H[r]? = some (.list vs)) (hi : ints? vs = some ns) (hn : ∀ n ∈ ns, 0 ≤ n ∧ n < 256) (hl : vs.length < 100000) (q : Q (.byt (ns.map fun n => n.toNat.toUInt8)) H) : biA .bytes [.ref r] H Q := Or.inl ⟨vs, ns, hr, hi, hn, hl, q⟩
theorem x_bytesA {b : List UInt8} (hr : H[r]? = some (.barr b)) (hl : b.length < 100000) (q : Q (.byt b) H) : biA .bytes [.ref r] H Q := Or.inr ⟨b, hr, hl, q⟩
theorem x_set {i : Nat} (hr : H[r]? = some (.list vs)) (hl : vs.length < 100000) (h1 : i < vs.length) (q : QH (H.set r (.list (vs.set i v)))) : setItemA (.ref r) (.int i) v H QH := by
  refine Or.inl ⟨vs, hr, hl, ?_, ?_⟩
  · unfold inside; rw [if_neg om494]; exact om495 h1
  · unfold place; rw [if_neg om494]; exact q
theorem x_setN {i : Nat} (hr : H[r]? = some (.list vs)) (hl : vs.length < 100000) (h0 : 0 < i) (h1 : i ≤ vs.length) (q : QH (H.set r (.list (vs.set (vs.length - i) v)))) : setItemA (.ref r) (.int (-(i : Int))) v H QH := by
  refine Or.inl ⟨vs, hr, hl, ?_, ?_⟩
  · unfold inside; rw [if_pos (om496 h0)]; exact om497 h0 h1
  · unfold place; rw [if_pos (om496 h0)]
    rw [show (-(i : Int) + (vs.length : Int)).toNat = vs.length - i by exact om498]; exact q
theorem x_setA {b : List UInt8} {i n : Int} (hr : H[r]? = some (.barr b)) (hn : 0 ≤ n ∧ n < 256) (h0 : 0 ≤ i) (h1 : i < b.length) (hl : b.length < 100000) (q : QH (H.set r (.barr (b.set i.toNat n.toNat.toUInt8)))) : setItemA (.ref r) (.int i) (.int n) H QH :=
  Or.inr ⟨b, n, hr, rfl, hn.1, hn.2, h0, h1, hl, q⟩
theorem x_attr {n : AN} {d : Nat} {C : Addr} {fs : List (AN × AV)} (hr : H[r]? = some (.inst C d)) (hd : H[d]? = some (.dict fs)) (hg : getF n fs = some v) (hC : C = 199 ∨ C = 312) (q : Q v H) : attrA (.ref r) n H Q := ⟨C, d, fs, v, hr, hd, hg, hC, q⟩
theorem x_setAttr {n : AN} {d : Nat} {C : Addr} {fs : List (AN × AV)} (hr : H[r]? = some (.inst C d)) (hd : H[d]? = some (.dict fs)) (hC : C = 199 ∨ C = 312) (hl : fs.length < 100) (q : QH (H.set d (.dict (putF n v fs)))) : setAttrA (.ref r) n v H QH := ⟨C, d, fs, hr, hd, hC, hl, q⟩
theorem x_eqR {K : Bool → Prop} (hj : H[j]? = some (.list vs)) (hk : H[k]? = some (.list ws)) (h : (vs.length ≠ ws.length ∧ K false) ∨ (vs = ws ∧ (∀ v ∈ vs, IsPrim v) ∧ K true)) : eqA (.ref j) (.ref k) H K := Or.inl ⟨vs, ws, hj, hk, h⟩
theorem x_neR (hj : H[j]? = some (.list vs)) (hk : H[k]? = some (.list ws)) (h : (vs.length ≠ ws.length ∧ Q (.bool true) H) ∨ (vs = [] ∧ ws = [] ∧ Q (.bool false) H)) : cmpA .ne (.ref j) (.ref k) H Q := ⟨vs, ws, hj, hk, h⟩
/-- a tuple made and taken apart -/
theorem tup_go {vs : List AV} {xs : List Nat} {P : List AV → Prop} (h1 : Nat.ble (vs.length + 1) 1000 = true) (h2 : vs ≠ []) (h3 : vs.length = xs.length) (q : P vs) : (vs.length < 1000 ∧ vs ≠ []) ∧ ∃ us, (H ++ [.tup vs])[H.length]? = some (.tup us) ∧ us.length = xs.length ∧ P us :=
  ⟨⟨lt_lit h1, h2⟩, vs, by simp, h3, q⟩
end
section
variable {Γ : Orc} {b : ISs} {ok : AH → Prop} {x : Nat} {Q : SQ} {t : IE} {elt : IE} {cap : Loc}
theorem turns_inv (I : List AV → Loc → AH → Prop) (hok : ∀ r loc H, I r loc H → ok H)
    (hs : ∀ v r loc H (k : Loc → AH → Prop), I (v :: r) loc H → (∀ loc' H', I r loc' H' → k loc' H') → WSs Γ b (loc.set x (some v)) H (thenS k Q)) (he : ∀ loc H, I [] loc H → Q .next loc H) :
    ∀ vs loc H, I vs loc H → turnsS Γ b ok x vs loc H Q
  | [], loc, H, h => ⟨hok _ _ _ h, he _ _ h⟩
  | v :: r, loc, H, h => by
    rw [turnsS_cons]
    exact ⟨hok _ _ _ h, hs v r loc H (fun loc' H' => turnsS Γ b ok x r loc' H' Q) h (turns_inv I hok hs he r)⟩
theorem whiles_inv (I : Nat → Loc → AH → Prop)
    (hs : ∀ n loc H (k : Loc → AH → Prop), I n loc H → (∀ m, m < n → ∀ loc' H', I m loc' H' → k loc' H') → WT Γ t loc H (iteH (fun H => WSs Γ b loc H (thenS k Q)) fun H => Q .next loc H)) :
    ∀ n m, n < m → ∀ loc H, I n loc H → whilesS Γ t b m loc H Q
  | n, m + 1, h, loc, H, hi => by
    have := hs n loc H (fun loc' H' => whilesS Γ t b m loc' H' Q) hi fun k hk loc' H' h' => whiles_inv I hs k m (om501 h hk) loc' H' h'
    rw [← thenS_eq] at this
    exact this
theorem while_of (I : Nat → Loc → AH → Prop)
    (hs : ∀ n loc H (k : Loc → AH → Prop), I n loc H → (∀ m, m < n → ∀ loc' H', I m loc' H' → k loc' H') → WT Γ t loc H (iteH (fun H => WSs Γ b loc H (thenS k Q)) fun H => Q .next loc H)) {n : Nat} {loc : Loc} {H : AH} (h : I n loc H) :
    ∃ m, whilesS Γ t b m loc H Q := ⟨n + 1, whiles_inv I hs n (n + 1) (Nat.lt_succ_self n) loc H h⟩
theorem comp_inv {Q : List AV → AH → Prop} (I : List AV → List AV → AH → Prop) (hok : ∀ r acc H, I r acc H → ok H)
    (hs : ∀ v r acc H (Q' : PQ), I (v :: r) acc H → (∀ y H', I r (acc ++ [y]) H' → Q' y H') → WE Γ elt (some v :: cap) H Q') (he : ∀ acc H, I [] acc H → Q acc H) :
    ∀ vs acc H, I vs acc H → compS Γ elt cap ok vs acc H Q
  | [], acc, H, h => ⟨hok _ _ _ h, he _ _ h⟩
  | v :: r, acc, H, h => ⟨hok _ _ _ h, hs v r acc H (fun y H' => compS Γ elt cap ok r (acc ++ [y]) H' Q) h fun y H' h' => comp_inv I hok hs he r (acc ++ [y]) H' h'⟩
end
theorem upto_one (k : Int) : upto 0 k 1 = (List.range k.toNat).map fun (i : Nat) => AV.int i := by
  unfold upto
  by_cases h : (0 : Int) < k
  · rw [if_pos h]
    have e : ((k - 0 - 1) / 1 + 1).toNat = k.toNat := by rw [Int.ediv_one]; congr 1; exact om502
    rw [e]
    congr 1; funext i
    simp
  · rw [if_neg h, Int.toNat_of_nonpos (om503 h)]; rfl
end Mine
end
section
open PySem PySem.W
namespace Mine
local macro_rules | `(tactic| walk_at "s") => do
  let f (s : String) := (s.splitOn ",").toArray.map fun x => Lean.mkIdent x.toName
  let w := f "Ja,Jb,Jc,Jd,Je,Jf,Jg,Jh,Ji,Jj,Jk,Jl,Jm,Jn,Jo,Jp,Jq,Jr,Js,Jt,Ju,Jv,Jw,Jx,Jy,Jz,J0,J1,J2,J3,J4,J5,J6,J7,J8,J9,Wa,Wb,Wc,Wd,We,Wf,Wg,Wh,Wi,Wj,Wk,Wl,Wm,Wn,Wo,Wp,Wq,Wr,Ws,Wt,Wu,Wv,Ww,Wx,Wy,Wz,W0,W1,W2,W3,W4,W5,W6,W7,W8,W9,Za,Zb,Zc,Zd,Ze,Zf,Zg,Zh,Zi,Zj,Zk,Zl,Zm,Zn,Zo,Zp,Zq,Zr,Zs,Zt,Zu,Zv,Zw,Zx,Zy,Zz,Z0,Z1,Z2,Z3,Z4,Z5,Z6,Z7,Z8,Z9,Da,Db,Dc,Dd,List.set_cons_zero,List.set_cons_succ"
  let v := f "thenN,nilS,thenR,endN,endR,iteT,iteF"
  `(tactic| first | dsimp only [$[$w:term],*] | with_reducible first $[| refine $v ?_]*)
theorem get_len {H : AH} {x : AO} : (H ++ [x])[H.length]? = some x := by simp
theorem get_app {H : AH} {K : AH} {i : Nat} {x : AO} (h : H[i]? = some x) : (H ++ K)[i]? = some x := by
  rw [List.getElem?_append_left (List.getElem?_eq_some_iff.mp h).1]; exact h
theorem get_lt {H : AH} {i : Nat} {x : AO} (h : H[i]? = some x) : i < H.length := (List.getElem?_eq_some_iff.mp h).1
theorem get_set_ne {H : AH} {i j : Nat} {x y : AO} (h : H[i]? = some x) (hn : j ≠ i) : (H.set j y)[i]? = some x := by rw [List.getElem?_set_ne hn]; exact h
theorem get_set_eq {H : AH} {i : Nat} {x y : AO} (h : H[i]? = some x) : (H.set i y)[i]? = some y := by rw [List.getElem?_set_self (get_lt h)]
theorem set_app {H : AH} {x y : AO} : (H ++ [x]).set H.length y = H ++ [y] := by
  rw [List.set_append_right _ _ (Nat.le_refl _)]; simp
abbrev B := List UInt8
noncomputable def ub (i : Int) : UInt8 := i.toNat.toUInt8
theorem F_two_at {n : Nat} {b : B} {i : Int} {H : AH} {Q : PQ} (h0 : 0 ≤ i) (h1 : i + 1 < b.length) (hb : b.length < 100000) (q : Q (.int ((b.getD i.toNat 0).toNat * 256 + (b.getD (i + 1).toNat 0).toNat)) H) : Gam (n + 1) 72 [.byt b, .int i] H Q := by
  refine gam_go 0 [some (.byt b), some (.int i)] rfl rfl rfl ?_
  (repeat' (first | walk_at "s" | refine stepS rfl ?_))
  exact ⟨⟨h0, by exact om14 h1, hb⟩, .inr (by decide), ⟨by exact om15 h0, h1, hb⟩, q⟩
theorem F_four_at {n : Nat} {b : B} {i : Int} {H : AH} {Q : PQ} (h0 : 0 ≤ i) (h1 : i + 3 < b.length) (hb : b.length < 100000)
    (q : Q (.int (((b.getD i.toNat 0).toNat * 256 + (b.getD (i + 1).toNat 0).toNat) * 65536 + ((b.getD (i + 2).toNat 0).toNat * 256 + (b.getD (i + 2 + 1).toNat 0).toNat))) H) : Gam (n + 2) 79 [.byt b, .int i] H Q := by
  refine gam_go 1 [some (.byt b), some (.int i)] rfl rfl rfl ?_
  (repeat' (first | walk_at "s" | refine stepS rfl ?_))
  exact F_two_at h0 (om16 h1) hb ⟨.inr (by decide), F_two_at (om17 h0) (om18 h1) hb q⟩
theorem F_put_two {n r : Nat} {b : B} {i m : Int} {H : AH} {Q : PQ} (hr : H[r]? = some (.barr b)) (h0 : 0 ≤ i) (h1 : i + 1 < b.length) (hb : b.length < 100000) (hm : 0 ≤ m ∧ m < 65536)
    (q : Q .none (H.set r (.barr ((b.set i.toNat (ub (m / 256))).set (i + 1).toNat (ub (m % 256)))))) : Gam (n + 1) 86 [.ref r, .int i, .int m] H Q := by
  refine gam_go 2 [some (.ref r), some (.int i), some (.int m)] rfl rfl rfl ?_
  (repeat' (first | walk_at "s" | refine stepS rfl ?_))
  refine ⟨by decide, x_setA hr (om19 hm) h0 (om14 h1) hb ?_⟩
  (repeat' (first | walk_at "s" | refine stepS rfl ?_))
  refine ⟨by decide, x_setA (get_set_eq hr) om20 (om15 h0) (by rw [List.length_set]; exact h1) (by rw [List.length_set]; exact hb) ?_⟩
  (repeat' (first | walk_at "s" | refine stepS rfl ?_))
  rw [List.set_set]
  exact q
noncomputable def four (m : Int) : B := [0, 0, ub (m / 256), ub (m % 256)]
theorem F_put_four {n r : Nat} {H : AH} {Q : PQ} {m : Int} (hr : H[r]? = some (.barr [0, 0, 0, 0])) (hm : 0 ≤ m ∧ m < 65536)
    (q : Q .none (H.set r (.barr (four m)))) : Gam (n + 2) 93 [.ref r, .int 0, .int m] H Q := by
  refine gam_go 3 [some (.ref r), some (.int 0), some (.int m)] rfl rfl rfl ?_
  (repeat' (first | walk_at "s" | refine stepS rfl ?_))
  refine ⟨by decide, ?_⟩
  rw [show m / 65536 = 0 by exact om21 hm]
  refine F_put_two hr (by decide) (by decide) (by decide) (by decide) ⟨trivial, ?_⟩
  (repeat' (first | walk_at "s" | refine stepS rfl ?_))
  refine ⟨by decide, ?_⟩
  rw [show m % 65536 = m by exact om22 hm]
  refine F_put_two (get_set_eq hr) (by decide) (by decide) (by decide) hm ⟨trivial, ?_⟩
  (repeat' (first | walk_at "s" | refine stepS rfl ?_))
  rw [List.set_set]
  exact q
theorem F_four_octets {n : Nat} {H : AH} {Q : PQ} {m : Int} (hm : 0 ≤ m ∧ m < 65536) (q : ∀ x, Q (.byt (four m)) (H ++ [x])) : Gam (n + 3) 100 [.int m] H Q := by
  refine gam_go 4 [some (.int m), none] rfl rfl rfl ?_
  (repeat' (first | walk_at "s" | refine stepS rfl ?_))
  refine ⟨by decide, ?_⟩
  (repeat' (first | walk_at "s" | refine stepS rfl ?_))
  refine F_put_four get_len hm ⟨trivial, ?_⟩
  (repeat' (first | walk_at "s" | refine stepS rfl ?_))
  rw [set_app]
  exact x_bytesA get_len (lt_lit rfl) (q _)
theorem clip_nat (n k : Nat) : clipAt n (k : Int) = min k n := by
  unfold clipAt; split <;> omega
theorem cut_drop {α : Type} (l : List α) (k : Nat) : cut l (some (k : Int)) none = l.drop k := by
  unfold cut
  simp only [Option.elim, clip_nat]
  rcases Nat.le_total k l.length with h | h
  · rw [Nat.min_eq_left h, List.take_of_length_le (by simp)]
  · rw [Nat.min_eq_right h, List.take_of_length_le (by simp)]; rw [List.drop_eq_nil_of_le (Nat.le_refl _), List.drop_eq_nil_of_le h]
theorem cut_take {α : Type} (l : List α) (k : Nat) : cut l none (some (k : Int)) = l.take k := by
  unfold cut
  simp only [Option.elim, clip_nat, List.drop_zero, Nat.sub_zero]
  rcases Nat.le_total k l.length with h | h
  · rw [Nat.min_eq_left h]
  · rw [Nat.min_eq_right h, List.take_of_length_le (Nat.le_refl _), List.take_of_length_le h]
theorem cut_mid {α : Type} (l : List α) (j k : Nat) : cut l (some (j : Int)) (some (k : Int)) = (l.drop j).take (k - j) := by
  unfold cut
  simp only [Option.elim, clip_nat]
  rcases Nat.le_total j l.length with h | h
  · rw [Nat.min_eq_left h]
    rcases Nat.le_total k l.length with h' | h'
    · rw [Nat.min_eq_left h']
    · rw [Nat.min_eq_right h', List.take_of_length_le (by simp), List.take_of_length_le (by simp; exact om102 h')]
  · rw [Nat.min_eq_right h, List.drop_eq_nil_of_le (Nat.le_refl _), List.drop_eq_nil_of_le h]; simp
theorem cut_init {α : Type} (l : List α) : cut l none (some (-1)) = l.dropLast := by
  unfold cut
  simp only [Option.elim, List.drop_zero, Nat.sub_zero]
  rw [List.dropLast_eq_take]
  congr 1
  unfold clipAt; split <;> omega
noncomputable def leafK (k : Int) : Bool := decide (k = 13) || decide (k = 10)
noncomputable def headK (k : Int) : Int := if leafK k then 8 else 12
theorem F_is_leaf {n : Nat} {k : Int} {H : AH} {Q : PQ} (q : Q (.bool (leafK k)) H) : Gam (n + 1) 107 [.int k] H Q := by
  refine gam_go 5 [some (.int k)] rfl rfl rfl ?_
  (repeat' (first | walk_at "s" | refine stepS rfl ?_))
  unfold leafK at q
  refine iteH_dec (fun h => ?_) (fun h => ?_)
  · rw [decide_eq_true h] at q ⊢; exact q
  · rw [decide_eq_false h, Bool.false_or] at q; exact q
theorem F_head_size {n : Nat} {k : Int} {H : AH} {Q : PQ} (q : Q (.int (headK k)) H) : Gam (n + 2) 114 [.int k] H Q := by
  refine gam_go 6 [some (.int k)] rfl rfl rfl ?_
  (repeat' (first | walk_at "s" | refine stepS rfl ?_))
  refine F_is_leaf ?_
  unfold headK at q
  cases h : leafK k <;> rw [h] at q <;> (repeat' (first | walk_at "s" | refine stepS rfl ?_)) <;> exact q
theorem F_base_of {n : Nat} {p : Int} {H : AH} {Q : PQ} (hp : p ≠ 1) (q : Q (.int 0) H) : Gam (n + 1) 147 [.int p] H Q := by
  refine gam_go 11 [some (.int p)] rfl rfl rfl ?_
  (repeat' (first | walk_at "s" | refine stepS rfl ?_))
  exact iteH_neg hp q
noncomputable def plen (b : B) : Nat := max 4 b.length
noncomputable def cost1 (b : B) : Nat := 2 + plen b
noncomputable def costs (bs : List B) : Nat := (bs.map cost1).sum
theorem max_int (a b : Nat) : (if (a : Int) < b then (b : Int) else a) = ((max a b : Nat) : Int) := by split <;> omega
theorem F_cost {n : Nat} {b : B} {H : AH} {Q : PQ} (hb : b.length < 100000) (q : Q (.int (cost1 b : Nat)) H) : Gam (n + 1) 135 [.byt b] H Q := by
  refine gam_go 9 [some (.byt b)] rfl rfl rfl ?_
  (repeat' (first | walk_at "s" | refine stepS rfl ?_))
  refine ⟨hb, ?_⟩
  have e : (2 : Int) + (if (4 : Int) < b.length then (b.length : Int) else 4) = ((cost1 b : Nat) : Int) := by
    have := max_int 4 b.length
    unfold cost1 plen; split <;> omega
  rw [e]; exact q
noncomputable def bytL (bs : List B) : List AV := bs.map .byt
theorem bytL_length (bs : List B) : (bytL bs).length = bs.length := by simp [bytL]
theorem bL {bs : List B} {k : Nat} (h : bs.length < k) : (bytL bs).length < k := (bytL_length bs).symm ▸ h
theorem costs_int : ∀ bs : List B, (bs.map fun b => (cost1 b : Int)).sum = (costs bs : Int)
  | [] => rfl
  | b :: r => by
    have ih := costs_int r
    unfold costs at ih ⊢
    simp only [List.map_cons, List.sum_cons]
    rw [ih]; exact om88
theorem ints_map (ns : List Int) : ints? (ns.map .int) = some ns := by
  induction ns with
  | nil => rfl
  | cons n r ih => simp [ints?, ih]
theorem ints_comp {α : Type} (l : List α) (f : α → Int) : ints? (l.map fun a => .int (f a)) = some (l.map f) := by
  rw [← ints_map (l.map f), List.map_map]; rfl
theorem byts_map (bs : List B) : byts? (bytL bs) = some bs := by
  induction bs with
  | nil => rfl
  | cons n r ih => simp [byts?, bytL] at ih ⊢; exact ih
/-- a comprehension whose turns leave the heap -/
theorem comp_pure {Γ : Orc} {elt : IE} {cap : Loc} {ok : AH → Prop} {f : AV → AV} {H : AH} {Q : List AV → AH → Prop} {vs : List AV} (hp : ∀ v ∈ vs, ∀ Q : PQ, Q (f v) H → WE Γ elt (some v :: cap) H Q) (ho : ok H) (q : Q (vs.map f) H) : compS Γ elt cap ok vs [] H Q := by
  refine comp_inv (fun r acc H' => H' = H ∧ ∃ d, vs = d ++ r ∧ acc = d.map f) (fun r acc H' h => h.1 ▸ ho) (fun v r acc H' Q' h k => ?_) (fun acc H' h => ?_) vs [] H ⟨rfl, [], rfl, rfl⟩
  · obtain ⟨rfl, d, e, rfl⟩ := h
    refine hp v (by rw [e]; simp) _ (k _ _ ⟨rfl, d ++ [v], by rw [e]; simp, by simp⟩)
  · obtain ⟨rfl, d, e, rfl⟩ := h
    rw [List.append_nil] at e; subst e; exact q
theorem F_total {n r : Nat} {bs : List B} {H : AH} {Q : PQ} (hr : H[r]? = some (.list (bytL bs))) (hl : bs.length < 100000) (hb : ∀ b ∈ bs, b.length < 100000) (q : ∀ x, Q (.int (costs bs : Nat)) (H ++ [x])) : Gam (n + 2) 140 [.ref r] H Q := by
  refine gam_go 10 [some (.ref r)] rfl rfl rfl ?_
  (repeat' (first | walk_at "s" | refine stepS rfl ?_))
  refine ⟨bytL bs, hr, bL hl, ?_⟩
  refine comp_pure (f := fun v => match v with | .byt b => .int (cost1 b) | v => v) (fun v hv Q q => ?_) hr ?_
  · obtain ⟨b, hb', rfl⟩ := List.mem_map.mp hv
    exact F_cost (hb b hb') q
  · refine ⟨_, bs.map fun b => (cost1 b : Int), get_len, ?_, ?_⟩
    · rw [← ints_comp]; simp [bytL, Function.comp_def]
    · rw [costs_int]; exact q _
theorem F_capacity {n : Nat} {p k u : Int} {H : AH} {Q : PQ} (hp : p ≠ 1) (q : Q (.int (u - headK k)) H) : Gam (n + 3) 154 [.int p, .int k, .int u] H Q := by
  refine gam_go 12 [some (.int p), some (.int k), some (.int u)] rfl rfl rfl ?_
  (repeat' (first | walk_at "s" | refine stepS rfl ?_))
  refine F_base_of hp ?_
  (repeat' (first | walk_at "s" | refine stepS rfl ?_))
  refine F_head_size ?_
  (repeat' (first | walk_at "s" | refine stepS rfl ?_))
  rw [Int.sub_zero]; exact q
theorem F_child_of {n : Nat} {m : Int} {b : B} {H : AH} {Q : PQ} (hm : 0 ≤ m ∧ m < 65536) (hb : b.length < 10000) (q : Q (.int m) H) : Gam (n + 3) 161 [.byt (four m ++ b)] H Q := by
  refine gam_go 13 [some (.byt (four m ++ b))] rfl rfl rfl ?_
  (repeat' (first | walk_at "s" | refine stepS rfl ?_))
  refine F_four_at (by decide) (by simp [four]; exact om103) (by simp [four]; exact om104 hb) ?_
  have e : (((((four m ++ b).getD (Int.toNat 0) 0).toNat : Int) * 256 + ((four m ++ b).getD ((0 : Int) + 1).toNat 0).toNat) * 65536 + (((four m ++ b).getD ((0 : Int) + 2).toNat 0).toNat * 256 + ((four m ++ b).getD ((0 : Int) + 2 + 1).toNat 0).toNat)) = m := by
    show ((0 : Int) * 256 + 0) * 65536 + ((ub (m / 256)).toNat * 256 + (ub (m % 256)).toNat) = m
    unfold ub
    simp
    exact om105 hm
  rw [e]; exact q
theorem F_with_child {n : Nat} {m c : Int} {b : B} {H : AH} {Q : PQ} (hm : 0 ≤ m ∧ m < 65536) (hb : b.length < 10000) (q : ∀ x, Q (.byt (four m ++ b)) (H ++ [x])) : Gam (n + 4) 168 [.byt (four c ++ b), .int m] H Q := by
  refine gam_go 14 [some (.byt (four c ++ b)), some (.int m)] rfl rfl rfl ?_
  (repeat' (first | walk_at "s" | refine stepS rfl ?_))
  refine F_four_octets hm fun x => ?_
  (repeat' (first | walk_at "s" | refine stepS rfl ?_))
  refine ⟨by simp [four]; exact om104 hb, ?_⟩
  rw [show cut (four c ++ b) (some 4) none = b from cut_drop (four c ++ b) 4]
  exact ⟨by simp [four]; exact om106 hb, q x⟩
theorem band127 : ∀ k : Fin 128, Builtin.bitAnd ((k.val : Nat) : Int) 127 = (k.val : Nat) := by decide +kernel
theorem bor0 : ∀ k : Fin 128, Builtin.bitOr 0 ((k.val : Nat) : Int) = (k.val : Nat) := by decide +kernel
theorem band127' {k : Int} (h0 : 0 ≤ k) (h1 : k < 128) : Builtin.bitAnd k 127 = k := by
  have := band127 ⟨k.toNat, by exact om107 h1⟩
  simp only [Int.toNat_of_nonneg h0] at this; exact this
theorem bor0' {k : Int} (h0 : 0 ≤ k) (h1 : k < 128) : Builtin.bitOr 0 k = k := by
  have := bor0 ⟨k.toNat, by exact om107 h1⟩
  simp only [Int.toNat_of_nonneg h0] at this; exact this
theorem F_put_varint {n : Nat} {H : AH} {Q : PQ} {m : Int} (h0 : 0 ≤ m) (h1 : m < 128) (q : ∀ x, Q (.byt [ub m]) (H ++ [x])) : Gam (n + 1) 121 [.int m] H Q := by
  refine gam_go 7 [some (.int m), none, none, none] rfl rfl rfl ?_
  (repeat' (first | walk_at "s" | refine stepS rfl ?_))
  refine ⟨by decide, ?_⟩
  rw [show m % 18446744073709551616 = m by exact om108 h0 h1]
  (repeat' (first | walk_at "s" | refine stepS rfl ?_))
  refine ⟨lt_lit rfl, ?_⟩
  (repeat' (first | walk_at "s" | refine stepS rfl ?_))
  refine ⟨by decide, iteH_neg (by simp; exact om109 h1) ?_⟩
  (repeat' (first | walk_at "s" | refine stepS rfl ?_))
  refine ⟨⟨_, get_len⟩, _, get_len, lt_lit rfl, trivial, ?_⟩
  rw [set_app, band127' h0 h1]
  (repeat' (first | walk_at "s" | refine stepS rfl ?_))
  refine ⟨.inr rfl, by decide, ?_⟩
  rw [show m / 2 ^ (7 : Int).toNat = 0 from Int.ediv_eq_zero_of_lt h0 h1]
  (repeat' (first | walk_at "s" | refine stepS rfl ?_))
  refine ⟨1, ?_⟩
  show WT _ _ _ _ (iteH _ _)
  (repeat' (first | walk_at "s" | refine stepS rfl ?_))
  refine ⟨⟨_, get_len⟩, _, get_len, lt_lit rfl, trivial, ?_⟩
  rw [set_app]
  (repeat' (first | walk_at "s" | refine stepS rfl ?_))
  exact x_bytes get_len (ns := [m]) rfl (by simp; exact om110 h0 h1) (lt_lit rfl) (q _)
theorem F_get_varint {n : Nat} {H : AH} {Q : PQ} {b : B} {i : Nat} {u : UInt8} (hi : b[i]? = some u) (hu : u.toNat < 128) (hb : b.length < 100000) (q : Q (.ref H.length) (H ++ [.tup [.int u.toNat, .int (i + 1)]])) : Gam (n + 1) 128 [.byt b, .int i] H Q := by
  have hlt : i < b.length := (List.getElem?_eq_some_iff.mp hi).1
  refine gam_go 8 [some (.byt b), some (.int i), none, none, none] rfl rfl rfl ?_
  (repeat' (first | walk_at "s" | refine stepS rfl ?_))
  refine ⟨by decide, ?_⟩
  rw [show upto 0 9 1 = .int 0 :: (upto 0 9 1).tail from rfl, turnsS_cons]
  refine ⟨trivial, ?_⟩
  (repeat' (first | walk_at "s" | refine stepS rfl ?_))
  refine ⟨hb, iteH_neg (om111 hlt) ?_⟩
  (repeat' (first | walk_at "s" | refine stepS rfl ?_))
  refine ⟨⟨by exact om55, by exact om112 hlt, hb⟩, ?_⟩
  have e : b.getD (i : Int).toNat 0 = u := by rw [Int.toNat_natCast, List.getD_eq_getElem?_getD, hi]; rfl
  rw [e]
  (repeat' (first | walk_at "s" | refine stepS rfl ?_))
  refine ⟨.inl rfl, ?_⟩
  (repeat' (first | walk_at "s" | refine stepS rfl ?_))
  refine ⟨⟨by decide, by decide, by decide⟩, ?_⟩
  (repeat' (first | walk_at "s" | refine stepS rfl ?_))
  rw [band127' om55 (om56 hu), show (0 : Int) * 2 ^ (7 : Int).toNat = 0 from rfl, bor0' om55 (om56 hu)]
  (repeat' (first | walk_at "s" | refine stepS rfl ?_))
  refine iteH_pos (om56 hu) ?_
  (repeat' (first | walk_at "s" | refine stepS rfl ?_))
  exact ⟨⟨lt_lit rfl, List.cons_ne_nil _ _⟩, q⟩
theorem F_leaf_rowid {n : Nat} {H : AH} {Q : PQ} {u v : UInt8} {b : B} (hu : u.toNat < 128) (hv : v.toNat < 128) (hb : b.length < 10000) (q : ∀ K, Q (.int v.toNat) (H ++ K)) : Gam (n + 2) 175 [.byt (u :: v :: b)] H Q := by
  have hl : (u :: v :: b).length < 100000 := by simp; exact om113 hb
  refine gam_go 15 [some (.byt (u :: v :: b)), none, none, none] rfl rfl rfl ?_
  (repeat' (first | walk_at "s" | refine stepS rfl ?_))
  refine F_get_varint (i := 0) rfl hu hl ?_
  (repeat' (first | walk_at "s" | refine stepS rfl ?_))
  refine ⟨_, get_len, rfl, ?_⟩
  (repeat' (first | walk_at "s" | refine stepS rfl ?_))
  refine F_get_varint (i := 1) rfl hv hl ?_
  (repeat' (first | walk_at "s" | refine stepS rfl ?_))
  refine ⟨_, get_len, rfl, ?_⟩
  (repeat' (first | walk_at "s" | refine stepS rfl ?_))
  rw [List.append_assoc]
  exact q _
structure Fr (m : List Nat) (H H' : AH) : Prop where
  len : H.length ≤ H'.length
  get : ∀ i x, H[i]? = some x → i ∉ m → H'[i]? = some x
theorem Fr.refl (m : List Nat) (H : AH) : Fr m H H := ⟨Nat.le_refl _, fun _ _ e _ => e⟩
theorem Fr.app (m : List Nat) (H K : AH) : Fr m H (H ++ K) := ⟨by simp, fun _ _ e _ => get_app e⟩
theorem Fr.put {m : List Nat} {H : AH} {i : Nat} {x : AO} (h : i ∈ m) : Fr m H (H.set i x) := ⟨by simp, fun j y e hj => get_set_ne e fun q => hj (q ▸ h)⟩
theorem Fr.trans {m m' : List Nat} {H H' H'' : AH} (f : Fr m H H') (g : Fr m' H' H'') (h : ∀ i ∈ m', i ∈ m ∨ H.length ≤ i) : Fr m H H'' :=
  ⟨Nat.le_trans f.len g.len, fun i x e hi => g.get i x (f.get i x e hi) fun q => by
    rcases h i q with a | a
    · exact hi a
    · have := get_lt e; exact (om114 a this).elim⟩
theorem Fr.then {m : List Nat} {H H' H'' : AH} (f : Fr m H H') (g : Fr m H' H'') : Fr m H H'' := f.trans g fun _ h => .inl h
theorem Fr.mono {m m' : List Nat} {H H' : AH} (f : Fr m H H') (h : ∀ i ∈ m, i ∈ m') : Fr m' H H' := ⟨f.len, fun i x e hi => f.get i x e fun q => hi (h i q)⟩
theorem Fr.nil {m : List Nat} {H H' : AH} (f : Fr [] H H') : Fr m H H' := f.mono fun _ h => nomatch h
structure Sto (H : AH) (st d P S : Nat) (size : Int) (pg : List B) : Prop where
  inst : H[st]? = some (.inst 312 d)
  dict : H[d]? = some (.dict [(.page_size, .int size), (.pages, .ref P), (.spare, .ref S)])
  pgs : H[P]? = some (.list (bytL pg))
section
variable {H H' : AH} {Q : PQ} {st d P S : Nat} {size : Int} {pg pg' : List B} {n : Nat} {m : List Nat}
theorem Sto.r_size (h : Sto H st d P S size pg) (q : Q (.int size) H) : attrA (.ref st) .page_size H Q := x_attr h.inst h.dict rfl (.inr rfl) q
theorem Sto.r_pages (h : Sto H st d P S size pg) (q : Q (.ref P) H) : attrA (.ref st) .pages H Q := x_attr h.inst h.dict rfl (.inr rfl) q
theorem Sto.nP1 (h : Sto H st d P S size pg) : P ≠ st := fun e => by have := h.pgs; rw [e, h.inst] at this; cases this
theorem Sto.nP2 (h : Sto H st d P S size pg) : P ≠ d := fun e => by have := h.pgs; rw [e, h.dict] at this; cases this
theorem Sto.put (h : Sto H st d P S size pg) : Sto (H.set P (.list (bytL pg'))) st d P S size pg' :=
  ⟨get_set_ne h.inst h.nP1, get_set_ne h.dict h.nP2, get_set_eq h.pgs⟩
theorem Sto.fr (h : Sto H st d P S size pg) (f : Fr m H H') (h1 : st ∉ m) (h2 : d ∉ m) (h3 : P ∉ m) : Sto H' st d P S size pg := ⟨f.get _ _ h.inst h1, f.get _ _ h.dict h2, f.get _ _ h.pgs h3⟩
theorem Sto.fr0 (h : Sto H st d P S size pg) (f : Fr [] H H') : Sto H' st d P S size pg := h.fr f (fun q => nomatch q) (fun q => nomatch q) (fun q => nomatch q)
theorem Sto.app {K : AH} (h : Sto H st d P S size pg) : Sto (H ++ K) st d P S size pg := h.fr0 (Fr.app ..)
theorem F_page_count (h : Sto H st d P S size pg) (hl : pg.length < 100000) (q : Q (.int pg.length) H) : Gam (n + 1) 274 [.ref st] H Q := by
  refine gam_go 26 [some (.ref st)] rfl rfl rfl ?_
  (repeat' (first | walk_at "s" | refine stepS rfl ?_))
  refine h.r_pages (x_len h.pgs (bL hl) ?_)
  rw [bytL_length]; exact q
theorem F_read_page {p : Nat} {b : B} (h : Sto H st d P S size pg) (hl : pg.length < 100000) (hb : pg[p]? = some b) (q : Q (.byt b) H) : Gam (n + 1) 281 [.ref st, .int (p + 1)] H Q := by
  have hlt : p < pg.length := (List.getElem?_eq_some_iff.mp hb).1
  refine gam_go 27 [some (.ref st), some (.int (p + 1))] rfl rfl rfl ?_
  (repeat' (first | walk_at "s" | refine stepS rfl ?_))
  refine iteH_neg om115 ?_
  (repeat' (first | walk_at "s" | refine stepS rfl ?_))
  refine h.r_pages (x_len h.pgs (bL hl) ?_)
  (repeat' (first | walk_at "s" | refine stepS rfl ?_))
  rw [bytL_length]
  refine iteH_neg (om116 hlt) ?_
  (repeat' (first | walk_at "s" | refine stepS rfl ?_))
  refine h.r_pages ?_
  (repeat' (first | walk_at "s" | refine stepS rfl ?_))
  rw [show (p : Int) + 1 - 1 = p by exact om117]
  refine x_idx h.pgs (bL hl) ?_ q
  simp [bytL, hb]
theorem F_write_page {p : Nat} {b : B} (h : Sto H st d P S size pg) (hl : pg.length < 100000) (hp : p < pg.length) (hb : (b.length : Int) = size) (hb' : b.length < 100000) (q : Q .none (H.set P (.list (bytL (pg.set p b))))) : Gam (n + 1) 288 [.ref st, .int (p + 1), .byt b] H Q := by
  refine gam_go 28 [some (.ref st), some (.int (p + 1)), some (.byt b)] rfl rfl rfl ?_
  (repeat' (first | walk_at "s" | refine stepS rfl ?_))
  refine ⟨hb', h.r_size ?_⟩
  (repeat' (first | walk_at "s" | refine stepS rfl ?_))
  rw [hb, bne_self_eq_false]
  (repeat' (first | walk_at "s" | refine stepS rfl ?_))
  refine iteH_neg om115 ?_
  (repeat' (first | walk_at "s" | refine stepS rfl ?_))
  refine h.r_pages (x_len h.pgs (bL hl) ?_)
  (repeat' (first | walk_at "s" | refine stepS rfl ?_))
  rw [bytL_length]
  refine iteH_neg (om116 hp) ?_
  (repeat' (first | walk_at "s" | refine stepS rfl ?_))
  refine ⟨hb', h.r_pages ?_⟩
  rw [show (p : Int) + 1 - 1 = p by exact om117]
  refine x_set h.pgs (bL hl) ((bytL_length pg).symm ▸ hp) ?_
  (repeat' (first | walk_at "s" | refine stepS rfl ?_))
  have e' : (bytL pg).set p (.byt b) = bytL (pg.set p b) := by simp [bytL]
  rw [e']; exact q
theorem F_extend {sz : Nat} (h : Sto H st d P S sz pg) (hs : sz ≤ 1000) (hl : pg.length < 10000) (q : Q (.int (pg.length + 1 : Nat)) (H.set P (.list (bytL (pg ++ [List.replicate sz 0]))))) : Gam (n + 1) 295 [.ref st] H Q := by
  refine gam_go 29 [some (.ref st)] rfl rfl rfl ?_
  (repeat' (first | walk_at "s" | refine stepS rfl ?_))
  refine h.r_pages ⟨⟨_, h.pgs⟩, h.r_size ?_⟩
  (repeat' (first | walk_at "s" | refine stepS rfl ?_))
  refine ⟨by exact om118 hs, _, h.pgs, bL (om119 hl), trivial, ?_⟩
  (repeat' (first | walk_at "s" | refine stepS rfl ?_))
  have e : bytL pg ++ [.byt (List.replicate (sz : Int).toNat 0)] = bytL (pg ++ [List.replicate sz 0]) := by simp [bytL]
  rw [e]
  have h' := h.put (pg' := pg ++ [List.replicate sz 0])
  refine h'.r_pages (x_len h'.pgs (bL (by rw [List.length_append, List.length_singleton]; exact om120 hl)) ?_)
  rw [bytL_length, List.length_append]
  exact q
theorem F_store_init (q : Sto (H ++ [.dict [(.page_size, .int size), (.pages, .ref (H.length + 2)), (.spare, .ref (H.length + 3))], .inst 312 H.length, .list [], .list []]) (H.length + 1) H.length (H.length + 2) (H.length + 3) size [] →
    Q .none (H ++ [.dict [(.page_size, .int size), (.pages, .ref (H.length + 2)), (.spare, .ref (H.length + 3))], .inst 312 H.length, .list [], .list []])) : Gam (n + 1) 267 [.ref (H.length + 1), .int size] (H ++ [.dict [], .inst 312 H.length]) Q := by
  have g0 : ∀ (x : AO) (K : AH), (H ++ x :: K)[H.length]? = some x := fun x K => by simp
  have g1 : ∀ (x y : AO) (K : AH), (H ++ x :: y :: K)[H.length + 1]? = some y := fun x y K => by simp
  have g2 : ∀ (x y z : AO) (K : AH), (H ++ x :: y :: z :: K)[H.length + 2]? = some z := fun x y z K => by simp
  have s0 : ∀ (x x' : AO) (K : AH), (H ++ x :: K).set H.length x' = H ++ x' :: K := fun x x' K => by
    rw [List.set_append_right _ _ (Nat.le_refl _)]; simp
  refine gam_go 25 [some (.ref (H.length + 1)), some (.int size)] rfl rfl rfl ?_
  (repeat' (first | walk_at "s" | refine stepS rfl ?_))
  refine x_setAttr (g1 _ _ _) (g0 _ _) (.inr rfl) (by simp) ?_
  rw [s0]
  refine ⟨by simp, ?_⟩
  rw [List.append_assoc]
  refine x_setAttr (g1 _ _ _) (g0 _ _) (.inr rfl) (by simp [putF]) ?_
  simp only [List.cons_append, List.nil_append]
  rw [s0]
  refine ⟨by simp, ?_⟩
  rw [List.append_assoc]
  refine x_setAttr (g1 _ _ _) (g0 _ _) (.inr rfl) (by simp [putF]) ?_
  simp only [List.cons_append, List.nil_append]
  rw [s0]
  simp [putF]
  exact q ⟨by simp, by simp, by simp [bytL]⟩
theorem F_content_init {k rt : Int} {r : Nat} (q : Q .none (H ++ [.dict [(.kind, .int k), (.raws, .ref r), (.right, .int rt)], .inst 199 H.length])) : Gam (n + 1) 189 [.ref (H.length + 1), .int k, .ref r, .int rt] (H ++ [.dict [], .inst 199 H.length]) Q := by
  have g0 : ∀ (x : AO) (K : AH), (H ++ x :: K)[H.length]? = some x := fun x K => by simp
  have g1 : ∀ (x y : AO) (K : AH), (H ++ x :: y :: K)[H.length + 1]? = some y := fun x y K => by simp
  have s0 : ∀ (x x' : AO) (K : AH), (H ++ x :: K).set H.length x' = H ++ x' :: K := fun x x' K => by
    rw [List.set_append_right _ _ (Nat.le_refl _)]; simp
  refine gam_go 16 [some (.ref (H.length + 1)), some (.int k), some (.ref r), some (.int rt)] rfl rfl rfl ?_
  (repeat' (first | walk_at "s" | refine stepS rfl ?_))
  refine x_setAttr (g1 _ _ _) (g0 _ _) (.inl rfl) (by simp) ?_
  rw [s0]
  refine x_setAttr (g1 _ _ _) (g0 _ _) (.inl rfl) (by simp [putF]) ?_
  rw [s0]
  refine x_setAttr (g1 _ _ _) (g0 _ _) (.inl rfl) (by simp [putF]) ?_
  rw [s0]
  simp [putF]
  exact q
end
noncomputable def pad (b : B) : B := b ++ List.replicate (4 - b.length) 0
noncomputable def plens (bs : List B) : Nat := (bs.map plen).sum
noncomputable def offs : Int → List B → List Int
  | _, [] => []
  | a, r :: rs => (a - plen r) :: offs (a - plen r) rs
noncomputable def two (a : Int) : B := [ub (a / 256), ub (a % 256)]
noncomputable def ptrs (size : Int) (raws : List B) : List B := (offs size raws).map two
noncomputable def headB (kind n fin rt : Int) : B := [ub kind, 0, 0] ++ two n ++ two fin ++ [0] ++ (if leafK kind then [] else four rt)
noncomputable def frontB (size kind : Int) (raws : List B) (rt : Int) : B := headB kind raws.length (size - plens raws) rt ++ (ptrs size raws).flatten
noncomputable def pageB (size kind : Int) (raws : List B) (rt : Int) : B := frontB size kind raws rt ++ List.replicate (size - plens raws - (frontB size kind raws rt).length).toNat 0 ++ (raws.map pad).reverse.flatten
theorem pad_length (b : B) : (pad b).length = plen b := by simp [pad, plen]; exact om121
theorem plens_cons (b : B) (bs : List B) : plens (b :: bs) = plen b + plens bs := by simp [plens]
theorem plens_nil : plens [] = 0 := rfl
theorem costs_cons (b : B) (bs : List B) : costs (b :: bs) = cost1 b + costs bs := by simp [costs]
theorem costs_nil : costs [] = 0 := rfl
theorem plens_app (a b : List B) : plens (a ++ b) = plens a + plens b := by simp [plens]
theorem costs_app (a b : List B) : costs (a ++ b) = costs a + costs b := by simp [costs]
theorem costs_eq (bs : List B) : costs bs = 2 * bs.length + plens bs := by
  induction bs with
  | nil => rfl
  | cons b r ih => rw [costs_cons, plens_cons, ih, List.length_cons]; unfold cost1; exact om122
theorem offs_app (a : Int) (bs : List B) (b : B) : offs a (bs ++ [b]) = offs a bs ++ [a - plens (bs ++ [b])] := by
  induction bs generalizing a with
  | nil => simp [offs, plens]
  | cons x r ih =>
    simp only [List.cons_append, offs, ih, plens_cons]
    congr 3; exact om123
theorem offs_length (a : Int) (bs : List B) : (offs a bs).length = bs.length := by
  induction bs generalizing a with
  | nil => rfl
  | cons x r ih => simp [offs, ih]
theorem ptrs_app (a : Int) (bs : List B) (b : B) : ptrs a (bs ++ [b]) = ptrs a bs ++ [two (a - plens (bs ++ [b]))] := by simp [ptrs, offs_app]
theorem two_length (a : Int) : (two a).length = 2 := rfl
theorem flatten_two (l : List Int) : ((l.map two).flatten).length = 2 * l.length := by
  induction l with
  | nil => rfl
  | cons x r ih => simp [two_length, ih]; exact om124
theorem ptrs_flat (a : Int) (bs : List B) : ((ptrs a bs).flatten).length = 2 * bs.length := by rw [ptrs, flatten_two, offs_length]
theorem pads_flat (bs : List B) : ((bs.map pad).reverse.flatten).length = plens bs := by
  induction bs with
  | nil => rfl
  | cons x r ih => simp only [List.map_cons, List.reverse_cons, List.flatten_append, List.length_append, ih, plens_cons, List.flatten_cons, List.flatten_nil, List.append_nil, pad_length]; exact om125
theorem headB_length (k n f r : Int) : ((headB k n f r).length : Int) = headK k := by
  unfold headB headK; cases leafK k <;> simp [two, four]
theorem frontB_length (size k : Int) (raws : List B) (rt : Int) : ((frontB size k raws rt).length : Int) = headK k + 2 * raws.length := by
  unfold frontB; rw [List.length_append, ptrs_flat]; have := headB_length k raws.length (size - plens raws) rt; exact om126 this
theorem pageB_length {size k : Int} {raws : List B} {rt : Int} (h : (costs raws : Int) ≤ size - headK k) : ((pageB size k raws rt).length : Int) = size := by
  unfold pageB
  rw [List.length_append, List.length_append, pads_flat, List.length_replicate]
  have := frontB_length size k raws rt
  rw [costs_eq] at h
  exact om127 h this
structure Con (H : AH) (c e r : Nat) (k rt : Int) (raws : List B) : Prop where
  inst : H[c]? = some (.inst 199 e)
  dict : H[e]? = some (.dict [(.kind, .int k), (.raws, .ref r), (.right, .int rt)])
  rws : H[r]? = some (.list (bytL raws))
section
variable {H H' : AH} {Q : PQ} {c e r : Nat} {k rt : Int} {raws : List B} {n : Nat} {m : List Nat} {st d P S : Nat} {size : Nat} {pg : List B}
theorem Con.r_kind (h : Con H c e r k rt raws) (q : Q (.int k) H) : attrA (.ref c) .kind H Q := x_attr h.inst h.dict rfl (.inl rfl) q
theorem Con.r_raws (h : Con H c e r k rt raws) (q : Q (.ref r) H) : attrA (.ref c) .raws H Q := x_attr h.inst h.dict rfl (.inl rfl) q
theorem Con.r_right (h : Con H c e r k rt raws) (q : Q (.int rt) H) : attrA (.ref c) .right H Q := x_attr h.inst h.dict rfl (.inl rfl) q
theorem Con.fr (h : Con H c e r k rt raws) (f : Fr m H H') (h1 : c ∉ m) (h2 : e ∉ m) (h3 : r ∉ m) : Con H' c e r k rt raws := ⟨f.get _ _ h.inst h1, f.get _ _ h.dict h2, f.get _ _ h.rws h3⟩
theorem Con.fr0 (h : Con H c e r k rt raws) (f : Fr [] H H') : Con H' c e r k rt raws := h.fr f (fun q => nomatch q) (fun q => nomatch q) (fun q => nomatch q)
theorem F_fits {p : Int} (h : Sto H st d P S size pg) (g : Con H c e r k rt raws) (hl : raws.length < 1000) (hb : ∀ b ∈ raws, b.length < 1000) (hc : (costs raws : Int) ≤ size - headK k) (hp : p ≠ 1)
    (q : ∀ H', Fr [] H H' → Q (.bool true) H') : Gam (n + 4) 210 [.ref st, .int p, .ref c] H Q := by
  refine gam_go 17 [some (.ref st), some (.int p), some (.ref c)] rfl rfl rfl ?_
  (repeat' (first | walk_at "s" | refine stepS rfl ?_))
  refine g.r_raws ?_
  refine F_total g.rws (om44 hl) (fun b hb' => Nat.lt_trans (hb b hb') (by decide)) fun x => ?_
  have f := Fr.app [] H [x]
  refine (g.fr0 f).r_kind ((h.fr0 f).r_size ?_)
  refine F_capacity hp ?_
  (repeat' (first | walk_at "s" | refine stepS rfl ?_))
  rw [decide_eq_true hc]
  exact q _ f
end
theorem get_app1 {H : AH} {x : AO} {i : Nat} (h : i = H.length) : (H ++ [x])[i]? = some x := by subst h; exact get_len
theorem max_pad (b : B) : (if (0 : Int) < 4 - (b.length : Int) then (4 - (b.length : Int)) else 0) = ((4 - b.length : Nat) : Int) := by split <;> omega
theorem two_bytes (a : Int) : two a = [(a / 256).toNat.toUInt8, (a % 256).toNat.toUInt8] := rfl
section
variable {H H' : AH} {Q : PQ} {c e r : Nat} {k rt : Int} {raws : List B} {n : Nat} {m : List Nat} {st d P S : Nat} {size : Nat} {pg : List B}
theorem F_write_content {p : Nat} (h : Sto H st d P S size pg) (g : Con H c e r k rt raws) (hl : raws.length < 1000) (hb : ∀ b ∈ raws, b.length < 1000) (hc : (costs raws : Int) ≤ size - headK k) (hs : size ≤ 1000) (hk : 0 ≤ k ∧ k < 256) (hr : 0 ≤ rt ∧ rt < 65536)
    (hp : p ≠ 0) (hpl : p < pg.length) (hpg : pg.length < 10000) (hpb : ∀ b ∈ pg, b.length < 10000)
    (q : ∀ H', Fr [P] H H' → Sto H' st d P S size (pg.set p (pageB size k raws rt)) → Q .none H') : Gam (n + 5) 217 [.ref st, .int (p + 1), .ref c] H Q := by
  have hkk : headK k = 8 ∨ headK k = 12 := by unfold headK; cases leafK k <;> simp
  have hce := costs_eq raws
  have hp1 : (p : Int) + 1 ≠ 1 := by exact om128 hp
  have hpl9 : plens raws ≤ 1000 := by exact om129 hc hs hkk hce
  have hrl : (bytL raws).length < 100000 := bL (om44 hl)
  have hpgl : pg.length < 100000 := by exact om119 hpg
  obtain ⟨bp, hbp⟩ : ∃ b, pg[p]? = some b := ⟨_, List.getElem?_eq_getElem hpl⟩
  have hbpl := hpb bp (List.mem_of_getElem? hbp)
  refine gam_go 18 [some (.ref st), some (.int (p + 1)), some (.ref c), none, none, none, none, none, none, none, none, none] rfl rfl rfl ?_
  (repeat' (first | walk_at "s" | refine stepS rfl ?_))
  refine F_fits h g hl hb hc hp1 fun H1 f1 => ?_
  have h1 := h.fr0 f1
  have g1 := g.fr0 f1
  (repeat' (first | walk_at "s" | refine stepS rfl ?_))
  refine h1.r_size (F_base_of hp1 (tup_go rfl (List.cons_ne_nil _ _) rfl ?_))
  (repeat' (first | walk_at "s" | refine stepS rfl ?_))
  refine ⟨lt_lit rfl, lt_lit rfl, tup_go rfl (List.cons_ne_nil _ _) rfl ?_⟩
  (repeat' (first | walk_at "s" | refine stepS rfl ?_))
  have f2 := ((Fr.app [] H1 [AO.tup [AV.int size, AV.int 0]]).then (Fr.app _ _ [AO.list []])).then ((Fr.app _ _ [AO.list []]).then (Fr.app _ _ [AO.tup [AV.ref (H1 ++ [AO.tup [AV.int size, AV.int 0]]).length, AV.ref (H1 ++ [AO.tup [AV.int size, AV.int 0]] ++ [AO.list []]).length, AV.int size]]))
  have ea := get_app (K := [AO.tup [AV.ref (H1 ++ [AO.tup [AV.int size, AV.int 0]]).length, AV.ref (H1 ++ [AO.tup [AV.int size, AV.int 0]] ++ [AO.list []]).length, AV.int size]]) (get_app (K := [AO.list []]) (get_len (H := H1 ++ [AO.tup [AV.int size, AV.int 0]]) (x := AO.list [])))
  have eb := get_app (K := [AO.tup [AV.ref (H1 ++ [AO.tup [AV.int size, AV.int 0]]).length, AV.ref (H1 ++ [AO.tup [AV.int size, AV.int 0]] ++ [AO.list []]).length, AV.int size]]) (get_len (H := H1 ++ [AO.tup [AV.int size, AV.int 0]] ++ [AO.list []]) (x := AO.list []))
  have la : H1.length ≤ (H1 ++ [AO.tup [AV.int size, AV.int 0]]).length ∧ (H1 ++ [AO.tup [AV.int size, AV.int 0]] ++ [AO.list []]).length = (H1 ++ [AO.tup [AV.int size, AV.int 0]]).length + 1 := ⟨by simp, by simp⟩
  generalize (H1 ++ [AO.tup [AV.int size, AV.int 0]] ++ [AO.list []] ++ [AO.list []] ++ [AO.tup [AV.ref (H1 ++ [AO.tup [AV.int size, AV.int 0]]).length, AV.ref (H1 ++ [AO.tup [AV.int size, AV.int 0]] ++ [AO.list []]).length, AV.int size]]) = H2 at *
  generalize (H1 ++ [AO.tup [AV.int size, AV.int 0]] ++ [AO.list []]).length = A2 at *
  generalize (H1 ++ [AO.tup [AV.int size, AV.int 0]]).length = A at *
  obtain ⟨la, rfl⟩ := la
  have hAA : A ≠ A + 1 := by exact om130
  have hAm : ∀ i x, H1[i]? = some x → i ∉ [A, A + 1] := fun i x e => by have := get_lt e; simp; exact om131 la this
  have h2 := h1.fr0 f2
  have g2 := g1.fr0 f2
  refine g2.r_raws ⟨bytL raws, g2.rws, hrl, ?_⟩
  refine turns_inv (fun rest loc H' => ∃ done todo x y, raws = done ++ todo ∧ rest = bytL todo ∧ loc = [some (.ref st), some (.int (p + 1)), some (.ref c), some (.int size), some (.int 0), some (.ref A), some (.ref (A + 1)), some (.int (size - plens done)), x, y, none, none] ∧
    Fr [A, A + 1] H2 H' ∧ H'[A]? = some (.list (bytL (ptrs size done))) ∧ H'[A + 1]? = some (.list (bytL (done.map pad)))) ?_ ?_ ?_ _ _ _ ⟨[], raws, none, none, rfl, rfl, by simp [plens_nil], Fr.refl .., ea, eb⟩
  · rintro r' loc H' ⟨done, todo, x, y, rfl, rfl, rfl, f, a1, a2⟩
    exact f.get _ _ g2.rws (hAm _ _ g1.rws)
  · rintro v r' loc H' K ⟨done, todo, x, y, e1, e2, rfl, f, a1, a2⟩ hK
    obtain _ | ⟨b, todo⟩ := todo
    · cases e2
    cases e2
    have hbl : b.length < 1000 := hb b (by rw [e1]; simp)
    have hpl := pad_length b
    have hpl5 : (pad b).length < 100000 := by rw [hpl]; unfold plen; exact om132 hbl
    have hpls : plens raws = plens done + plen b + plens todo := by rw [e1, plens_app, plens_cons]; exact om133
    have hlen : done.length < 100000 := by have := congrArg List.length e1; simp at this; exact om134 hl this
    have e3 : (size : Int) - ((plens (done ++ [b]) : Nat) : Int) = size - plens done - (pad b).length := by rw [plens_app, plens_cons, plens_nil, hpl]; exact om135
    have e4 : 0 ≤ (size : Int) - plens done - (pad b).length ∧ (size : Int) - plens done - (pad b).length < 65536 := by rw [hpl]; exact om136 hc hs hkk hce hpls
    (repeat' (first | walk_at "s" | refine stepS rfl ?_))
    refine ⟨by exact om44 hbl, ?_⟩
    rw [max_pad]
    (repeat' (first | walk_at "s" | refine stepS rfl ?_))
    refine ⟨⟨by exact om137, by exact om138⟩, by rw [List.length_replicate]; exact om139 hbl, ?_⟩
    rw [Int.toNat_natCast, show b ++ List.replicate (4 - b.length) 0 = pad b from rfl]
    (repeat' (first | walk_at "s" | refine stepS rfl ?_))
    refine ⟨hpl5, ?_⟩
    (repeat' (first | walk_at "s" | refine stepS rfl ?_))
    refine ⟨⟨_, a1⟩, rfl, e4, _, a1, bL (by rw [ptrs, List.length_map, offs_length]; exact hlen), trivial, ?_⟩
    (repeat' (first | walk_at "s" | refine stepS rfl ?_))
    refine ⟨⟨_, get_set_ne a2 hAA⟩, _, get_set_ne a2 hAA, bL (by rw [List.length_map]; exact hlen), trivial, ?_⟩
    (repeat' (first | walk_at "s" | refine stepS rfl ?_))
    refine hK _ _ ⟨done ++ [b], todo, some (.byt b), some (.byt (pad b)), by simp [e1], rfl, by rw [e3], f.then ((Fr.put (by simp)).then (Fr.put (by simp))), ?_, ?_⟩
    · refine (get_set_ne (get_set_eq a1) hAA.symm).trans ?_
      rw [ptrs_app, e3]
      simp [bytL, two, ub]
    · refine (get_set_eq (get_set_ne a2 hAA)).trans ?_
      simp [bytL]
  · rintro loc H3 ⟨done, todo, x, y, e1, e2, rfl, f, a1, a2⟩
    have : todo = [] := by cases todo with | nil => rfl | cons _ _ => cases e2
    subst this
    rw [List.append_nil] at e1
    subst e1
    have hAP := hAm _ _ h1.pgs
    have h3 := h2.fr f (hAm _ _ h1.inst) (hAm _ _ h1.dict) hAP
    have g3 := g2.fr f (hAm _ _ g1.inst) (hAm _ _ g1.dict) (hAm _ _ g1.rws)
    have hfin : 0 ≤ (size : Int) - plens raws ∧ (size : Int) - plens raws < 65536 := by exact om140 hc hs hkk hce
    have hfl := frontB_length size k raws rt
    -- the rest, once the head is known
    have rest : ∀ (hd : B) (H5 : AH), hd ++ (ptrs size raws).flatten = frontB size k raws rt → Fr [] H3 H5 →
        WSs (Gam (n + 4)) ir_write_content_6 [some (.ref st), some (.int (p + 1)), some (.ref c), some (.int size), some (.int 0), some (.ref A), some (.ref (A + 1)), some (.int (size - plens raws)), x, y, some (.byt hd), none] H5 (endQ Q) := by
      intro hd H5 ehd f5
      have h5 := h3.fr0 f5
      have b1 := f5.get _ _ a1 (by simp)
      have b2 := f5.get _ _ a2 (by simp)
      have hhd : hd.length + 2 * raws.length = (frontB size k raws rt).length := by rw [← ehd, List.length_append, ptrs_flat]
      have hpgl2 := pageB_length (rt := rt) hc
      (repeat' (first | walk_at "s" | refine stepS rfl ?_))
      refine ⟨_, _, _, _, h5.inst, h5.dict, rfl, F_read_page h5 hpgl hbp ?_⟩
      (repeat' (first | walk_at "s" | refine stepS rfl ?_))
      refine ⟨by exact om119 hbpl, ?_⟩
      rw [show cut bp none (some 0) = [] from (cut_take bp 0).trans rfl]
      (repeat' (first | walk_at "s" | refine stepS rfl ?_))
      refine ⟨by simp only [List.length_nil]; exact om141 hc hs hfl hhd, trivial, _, _, b1, byts_map _, by rw [ptrs_flat]; exact om142 hl, ?_⟩
      (repeat' (first | walk_at "s" | refine stepS rfl ?_))
      refine ⟨by rw [List.nil_append, ptrs_flat]; exact om143 hc hce hfin hfl hhd, ?_⟩
      rw [List.nil_append, ehd]
      (repeat' (first | walk_at "s" | refine stepS rfl ?_))
      refine ⟨⟨_, b2⟩, _, b2, bL (by rw [List.length_map]; exact om44 hl), trivial, ?_⟩
      rw [show (bytL (raws.map pad)).reverse = bytL (raws.map pad).reverse by simp [bytL]]
      have h6 : Sto (H5.set (A + 1) (.list (bytL (raws.map pad).reverse))) st d P S size pg := h5.fr (Fr.put (m := [A, A + 1]) (by simp)) (hAm _ _ h1.inst) (hAm _ _ h1.dict) hAP
      (repeat' (first | walk_at "s" | refine stepS rfl ?_))
      refine ⟨_, _, _, _, h6.inst, h6.dict, rfl, by exact om144 hc hce hfin hfl, ⟨by exact om145 hc hce hfl, by exact om146 hfin⟩, by rw [List.length_replicate]; exact om147 hc hce hfin hfl, trivial, _, _, get_set_eq b2, byts_map _, by rw [pads_flat]; exact om30 hpl9, ?_⟩
      (repeat' (first | walk_at "s" | refine stepS rfl ?_))
      refine ⟨by rw [pads_flat, List.length_append, List.length_replicate]; exact om148 hc hs hce hfl, ?_⟩
      refine F_write_page (b := pageB size k raws rt) h6 hpgl hpl hpgl2 (om149 hs hpgl2) ⟨trivial, q _ ?_ h6.put⟩
      have gg := (f.mono (m' := [A, A + 1, P]) (by simp)).then (f5.nil.then ((Fr.put (i := A + 1) (x := .list (bytL (raws.map pad).reverse)) (by simp)).then (Fr.put (i := P) (x := .list (bytL (pg.set p (pageB size k raws rt)))) (by simp))))
      refine f1.nil.then (Fr.trans f2.nil gg fun i hi => ?_)
      simp only [List.mem_cons, List.not_mem_nil, or_false] at hi ⊢
      exact om150 la hi
    have hbr : ((bytL raws).length : Int) = (raws.length : Int) := by rw [bytL_length]
    (repeat' (first | walk_at "s" | refine stepS rfl ?_))
    refine g3.r_kind ⟨lt_lit rfl, ?_⟩
    have f4 := Fr.app [] H3 [.list [.int k, .int 0, .int 0]]
    have g4 := g3.fr0 f4
    refine x_bytes get_len (ns := [k, 0, 0]) rfl (by simp; exact om151 hk) (lt_lit rfl) ?_
    refine g4.r_raws (x_len g4.rws hrl ?_)
    rw [hbr]
    (repeat' (first | walk_at "s" | refine stepS rfl ?_))
    refine ⟨rfl, ⟨by exact om55, by exact om152 hl⟩, lt_lit rfl, ?_⟩
    (repeat' (first | walk_at "s" | refine stepS rfl ?_))
    refine ⟨rfl, hfin, lt_lit rfl, ⟨by decide, by decide⟩, lt_lit rfl, ?_⟩
    (repeat' (first | walk_at "s" | refine stepS rfl ?_))
    refine g4.r_kind (F_is_leaf ?_)
    have hfr : [ub k, 0, 0] ++ two raws.length ++ two (size - plens raws) ++ [0] ++ (if leafK k then [] else four rt) ++ (ptrs size raws).flatten = frontB size k raws rt := rfl
    cases hlk : leafK k <;> rw [hlk] at hfr
    · (repeat' (first | walk_at "s" | refine stepS rfl ?_))
      refine g4.r_right (F_four_octets hr fun z => ?_)
      (repeat' (first | walk_at "s" | refine stepS rfl ?_))
      refine ⟨lt_lit rfl, ?_⟩
      exact rest _ _ hfr (f4.then (Fr.app [] _ [z]))
    · (repeat' (first | walk_at "s" | refine stepS rfl ?_))
      rw [if_pos rfl, List.append_nil] at hfr
      exact rest _ _ hfr f4
end
noncomputable def zeros (size : Nat) : B := List.replicate size 0
theorem range_drop (n i : Nat) (h : i < n) : (List.range n).drop i = i :: (List.range n).drop (i + 1) := by
  rw [List.drop_eq_getElem_cons (by simpa using h)]; simp
theorem rep_app {α : Type} (k : Nat) (x : α) : List.replicate k x ++ [x] = List.replicate (k + 1) x := by
  rw [List.replicate_succ']
noncomputable def ns (n : Nat) (f : Nat → Nat) : List AV := (List.range n).map fun (i : Nat) => AV.int (f i)
/-- the turns of a range: one more, or the end -/
theorem rng_cons {α : Type} {f : Nat → α} {v : α} {r : List α} {i n : Nat} (h : v :: r = ((List.range n).drop i).map f) : i < n ∧ v = f i ∧ r = ((List.range n).drop (i + 1)).map f := by
  rcases Nat.lt_or_ge i n with g | g
  · rw [range_drop _ _ g] at h; cases h; exact ⟨g, rfl, rfl⟩
  · rw [List.drop_eq_nil_of_le (by simpa using g)] at h; cases h
theorem rng_nil {α : Type} {f : Nat → α} {i n : Nat} (hi : i ≤ n) (h : [] = ((List.range n).drop i).map f) : i = n := by
  have := congrArg List.length h
  simp at this; exact om153 hi this
theorem rng_get {n i : Nat} {f : Nat → AV} (h : i < n) : ((List.range n).map f)[i]? = some (f i) := by
  rw [List.getElem?_map, List.getElem?_range h]; rfl
theorem rng_len {n k : Nat} {f : Nat → AV} (h : n < k) : ((List.range n).map f).length < k := by
  rw [List.length_map, List.length_range]; exact h
section
variable {H H' : AH} {Q : PQ} {n : Nat} {m : List Nat} {st d P S : Nat} {size : Nat} {pg : List B}
theorem F_new_pages {many : Nat} (h : Sto H st d P S size pg) (hm : many < 1000) (hs : size ≤ 1000) (hpg : pg.length < 5000)
    (q : ∀ H' N, Fr [P] H H' → Sto H' st d P S size (pg ++ List.replicate many (zeros size)) → H'[N]? = some (.list ((List.range many).map fun (i : Nat) => .int (pg.length + 1 + i : Nat))) → H.length ≤ N → Q (.ref N) H') : Gam (n + 2) 243 [.ref st, .int many] H Q := by
  refine gam_go 22 [some (.ref st), some (.int many)] rfl rfl rfl ?_
  (repeat' (first | walk_at "s" | refine stepS rfl ?_))
  refine ⟨by exact om154 hm, ?_⟩
  show compS _ _ [some (.ref st)] _ _ _ _ _
  refine comp_inv (fun rest acc H' => ∃ i, i ≤ many ∧ rest = ((List.range many).drop i).map (fun (i : Nat) => AV.int i) ∧ acc = (List.range i).map (fun (i : Nat) => AV.int (pg.length + 1 + i : Nat)) ∧ Fr [P] H H' ∧ Sto H' st d P S size (pg ++ List.replicate i (zeros size))) ?_ ?_ ?_ _ _ _ ⟨0, Nat.zero_le _, by simp, rfl, Fr.refl .., by simpa using h⟩
  · intros; trivial
  · rintro v rest acc H' Q' ⟨i, hi, e1, rfl, f, s⟩ k
    obtain ⟨hlt, rfl, rfl⟩ := rng_cons e1
    (repeat' (first | walk_at "s" | refine stepS rfl ?_))
    refine ⟨_, _, _, _, s.inst, s.dict, rfl, ?_⟩
    refine F_extend s hs (by rw [List.length_append, List.length_replicate]; exact om155 hm hpg hlt) ?_
    refine k _ _ ⟨i + 1, hlt, rfl, ?_, f.then (Fr.put (by simp)), ?_⟩
    · rw [List.range_succ, List.map_append, List.length_append, List.length_replicate, Nat.add_right_comm]
      rfl
    · have := s.put (pg' := pg ++ List.replicate i (zeros size) ++ [List.replicate size 0])
      rw [← rep_app, ← List.append_assoc]; exact this
  · rintro acc H' ⟨i, hi, e1, rfl, f, s⟩
    cases rng_nil hi e1
    exact q _ _ (f.then (Fr.app ..)) s.app get_len f.len
end
/-- lists of octets at the places rs -/
noncomputable def PL (ok : Nat → Prop) (H : AH) : List Nat → List (List B) → Prop
  | [], [] => True
  | r :: rs, p :: ps => (ok r ∧ H[r]? = some (.list (bytL p))) ∧ PL ok H rs ps
  | _, _ => False
theorem PL.fr {ok ok' : Nat → Prop} {H H' : AH} {m : List Nat} (f : Fr m H H') (h1 : ∀ r, ok r → r ∉ m) (h2 : ∀ r x, H[r]? = some x → ok r → ok' r) : ∀ {rs : List Nat} {ps : List (List B)}, PL ok H rs ps → PL ok' H' rs ps
  | [], [], _ => trivial
  | _ :: _, _ :: _, ⟨⟨a, b⟩, c⟩ => ⟨⟨h2 _ _ b a, f.get _ _ b (h1 _ a)⟩, PL.fr f h1 h2 c⟩
  | [], _ :: _, h => h.elim
  | _ :: _, [], h => h.elim
theorem PL.snoc {ok : Nat → Prop} {H : AH} {r : Nat} {p : List B} (h1 : ok r) (h2 : H[r]? = some (.list (bytL p))) : ∀ {rs : List Nat} {ps : List (List B)}, PL ok H rs ps → PL ok H (rs ++ [r]) (ps ++ [p])
  | [], [], _ => ⟨⟨h1, h2⟩, trivial⟩
  | _ :: _, _ :: _, ⟨a, c⟩ => ⟨a, PL.snoc h1 h2 c⟩
  | [], _ :: _, h => h.elim
  | _ :: _, [], h => h.elim
theorem PL.length {ok : Nat → Prop} {H : AH} : ∀ {rs : List Nat} {ps : List (List B)}, PL ok H rs ps → rs.length = ps.length
  | [], [], _ => rfl
  | _ :: _, _ :: _, ⟨a, c⟩ => by simp [c.length]
  | [], _ :: _, h => h.elim
  | _ :: _, [], h => h.elim
theorem PL.get {ok : Nat → Prop} {H : AH} : ∀ {rs : List Nat} {ps : List (List B)} {i : Nat} {p : List B}, PL ok H rs ps → ps[i]? = some p → ∃ r, rs[i]? = some r ∧ ok r ∧ H[r]? = some (.list (bytL p))
  | [], [], _, _, _, e => by simp at e
  | r :: _, q :: _, 0, p, ⟨a, c⟩, e => by simp at e; subst e; exact ⟨r, rfl, a.1, a.2⟩
  | _ :: _, _ :: _, i + 1, p, ⟨a, c⟩, e => by simpa using c.get (by simpa using e)
  | [], _ :: _, _, _, h, _ => h.elim
  | _ :: _, [], _, _, h, _ => h.elim
noncomputable def refL (rs : List Nat) : List AV := rs.map .ref
theorem refL_length (rs : List Nat) : (refL rs).length = rs.length := by simp [refL]
theorem rL {rs : List Nat} {k : Nat} (h : rs.length < k) : (refL rs).length < k := (refL_length rs).symm ▸ h
theorem refL_snoc (l : List Nat) (b : Nat) : refL (l ++ [b]) = refL l ++ [.ref b] := by simp [refL]
theorem bytL_snoc (l : List B) (b : B) : bytL (l ++ [b]) = bytL l ++ [.byt b] := by simp [bytL]
theorem x_lastR {H : AH} {Q : PQ} {r c : Nat} {ds : List Nat} (hr : H[r]? = some (.list (refL (ds ++ [c])))) (hl : ds.length < 10000) (q : Q (.ref c) H) : idxA (.ref r) (.int (-1)) H Q :=
  x_last (vs := refL ds) (by rw [hr, refL_snoc]) (rL (om156 hl)) q
noncomputable def packR (room : Int) : List (List B) → List B → List B → List (List B)
  | ps, cur, [] => ps ++ [cur]
  | ps, cur, b :: r => if (costs cur : Int) + cost1 b > room ∧ cur ≠ [] then packR room (ps ++ [cur]) [b] r else packR room ps (cur ++ [b]) r
section
variable {H H' : AH} {Q : PQ} {n : Nat}
theorem F_packed_rows {r : Nat} {room : Int} {raws : List B} (hr : H[r]? = some (.list (bytL raws))) (hl : raws.length < 1000) (hb : ∀ b ∈ raws, b.length < 1000)
    (q : ∀ H' G ds, Fr [] H H' → H'[G]? = some (.list (refL ds)) → PL (fun i => H.length ≤ i) H' ds (packR room [] [] raws) → Q (.ref G) H') : Gam (n + 2) 231 [.ref r, .int room] H Q := by
  refine gam_go 20 [some (.ref r), some (.int room), none, none, none] rfl rfl rfl ?_
  (repeat' (first | walk_at "s" | refine stepS rfl ?_))
  refine ⟨lt_lit rfl, lt_lit rfl, ?_⟩
  (repeat' (first | walk_at "s" | refine stepS rfl ?_))
  refine ⟨_, get_app (get_app hr), bL (om44 hl), ?_⟩
  have hrl := get_lt hr
  refine turns_inv (fun rest loc H' => ∃ todo ps cur ds c y, rest = bytL todo ∧ loc = [some (.ref r), some (.int room), some (.ref (H.length + 1)), some (.int (costs cur)), y] ∧ (∀ b ∈ todo, b ∈ raws) ∧ ps.length + cur.length + todo.length ≤ raws.length ∧
    packR room ps cur todo = packR room [] [] raws ∧ Fr [] H H' ∧ H'[H.length + 1]? = some (.list (refL (ds ++ [c]))) ∧ H'[c]? = some (.list (bytL cur)) ∧ H.length ≤ c ∧ c ≠ H.length + 1 ∧ PL (fun i => H.length ≤ i ∧ i ≠ H.length + 1 ∧ i ≠ c) H' ds ps) ?_ ?_ ?_ _ _ _ ?_
  · rintro rest loc H' ⟨todo, ps, cur, ds, c, y, rfl, rfl, hm, hn, hp, f, g1, g2, hc1, hc2, hpl⟩
    exact f.get _ _ hr (by simp)
  · rintro v rest loc H' K ⟨todo, ps, cur, ds, c, y, e1, rfl, hm, hn, hp, f, g1, g2, hc1, hc2, hpl⟩ hK
    obtain _ | ⟨b, todo⟩ := todo
    · cases e1
    cases e1
    have hbl' : b.length < 100000 := Nat.lt_trans (hb b (hm b (by simp))) (by decide)
    have hcl := get_lt g2
    have hpll := hpl.length
    simp only [List.length_cons] at hn
    have hm' : ∀ x ∈ todo, x ∈ raws := fun x hx => hm x (List.mem_cons_of_mem _ hx)
    have hds : ds.length < 10000 := by exact om157 hl hn hpll
    have f2 := Fr.app [] H' [AO.list []]
    -- the put of b onto a page c' (which holds cur')
    have put : ∀ (H2 : AH) (ps' : List (List B)) (cur' : List B) (ds' : List Nat) (c' : Nat), Fr [] H H2 → H2[H.length + 1]? = some (.list (refL (ds' ++ [c']))) → H2[c']? = some (.list (bytL cur')) → H.length ≤ c' → c' ≠ H.length + 1 → PL (fun i => H.length ≤ i ∧ i ≠ H.length + 1 ∧ i ≠ c') H2 ds' ps' →
        packR room ps' (cur' ++ [b]) todo = packR room [] [] raws → ps'.length + cur'.length + 1 + todo.length ≤ raws.length →
        WSs (Gam (n + 1)) ir_packed_rows_2b_1 [some (.ref r), some (.int room), some (.ref (H.length + 1)), some (.int (costs cur')), some (.byt b)] H2 (thenS K (endQ Q)) := by
      intro H2 ps' cur' ds' c' f2 k1 k2 k3 k4 k5 k6 k7
      have k8 := k5.length
      (repeat' (first | walk_at "s" | refine stepS rfl ?_))
      refine x_lastR k1 (om158 hl k7 k8) ?_
      (repeat' (first | walk_at "s" | refine stepS rfl ?_))
      refine ⟨⟨_, k2⟩, _, k2, bL (om159 hl k7), trivial, ?_⟩
      (repeat' (first | walk_at "s" | refine stepS rfl ?_))
      refine F_cost hbl' ?_
      (repeat' (first | walk_at "s" | refine stepS rfl ?_))
      refine hK _ _ ⟨todo, ps', cur' ++ [b], ds', c', some (.byt b), rfl, ?_, hm', by rw [List.length_append, List.length_singleton]; exact om160 k7, k6, f2.trans (Fr.put (m := [c']) (by simp)) (by simp; exact om161 k3), get_set_ne k1 (om162 k4), ?_, k3, k4, k5.fr (Fr.put (m := [c']) (by simp)) (fun r h => by simp; exact h.2.2) (fun r _ _ h => h)⟩
      · rw [costs_app, costs_cons, costs_nil, Nat.add_zero]; rfl
      · rw [get_set_eq k2, bytL_snoc]
    have hfin : packR room ps cur (b :: todo) = if (costs cur : Int) + cost1 b > room ∧ cur ≠ [] then packR room (ps ++ [cur]) [b] todo else packR room ps (cur ++ [b]) todo := rfl
    rw [hfin] at hp
    (repeat' (first | walk_at "s" | refine stepS rfl ?_))
    refine F_cost hbl' ?_
    (repeat' (first | walk_at "s" | refine stepS rfl ?_))
    refine iteH_dec (fun h1 => ?_) (fun h1 => ?_)
    · (repeat' (first | walk_at "s" | refine stepS rfl ?_))
      refine x_lastR g1 hds ?_
      refine ⟨lt_lit rfl, x_neR (get_app g2) get_len ?_⟩
      by_cases hcur : cur = []
      · refine .inr ⟨by rw [hcur]; rfl, rfl, ?_⟩
        (repeat' (first | walk_at "s" | refine stepS rfl ?_))
        rw [if_neg (fun h => h.2 hcur)] at hp
        exact put (H' ++ [AO.list []]) ps cur ds c (f.then f2) (get_app g1) (get_app g2) hc1 hc2 (hpl.fr f2 (fun _ _ => by simp) (fun _ _ _ h => h)) hp (om163 hn)
      · refine .inl ⟨by rw [bytL_length]; simpa using hcur, ?_⟩
        (repeat' (first | walk_at "s" | refine stepS rfl ?_))
        rw [if_pos ⟨h1, hcur⟩] at hp
        have g1' := get_app (K := [AO.list []]) g1
        have f3 := Fr.app [] (H' ++ [AO.list []]) [AO.list []]
        have hGl := get_lt g1
        have hlH := f.len
        have hlz : (H' ++ [AO.list []]).length = H'.length + 1 := by rw [List.length_append, List.length_singleton]
        have hcz : cur.length ≠ 0 := by simpa using hcur
        rw [hlz]
        refine ⟨⟨_, g1'⟩, lt_lit rfl, _, get_app g1', rL (by rw [List.length_append, List.length_singleton]; exact om120 hds), trivial, ?_⟩
        rw [← refL_snoc]
        (repeat' (first | walk_at "s" | refine stepS rfl ?_))
        refine put _ (ps ++ [cur]) [] (ds ++ [c]) (H'.length + 1) ?_ (get_set_eq (get_app g1')) (get_set_ne (get_app1 hlz.symm) (om164 hGl)) (om165 hGl) (om166 hGl) ?_ hp ?_
        · exact (f.then (f2.then f3)).trans (Fr.put (m := [H.length + 1]) (by simp)) (by simp)
        · refine PL.fr (m := [H.length + 1]) (ok := fun i => H.length ≤ i ∧ i ≠ H.length + 1 ∧ i ≠ H'.length + 1) (H := H' ++ [AO.list []] ++ [AO.list []]) (Fr.put (by simp)) (fun r h => by simp; exact h.2.1) (fun r _ _ h => h) ?_
          refine PL.snoc ⟨hc1, hc2, by exact om167 hcl⟩ (get_app (get_app g2)) (PL.fr (m := []) (H := H') (f2.then f3) (fun _ _ => by simp) (fun r x e h => ⟨h.1, h.2.1, fun q => ?_⟩) hpl)
          have := get_lt e
          exact (om168 q this).elim
        · rw [List.length_append, List.length_singleton, List.length_nil]; exact om169 hn hcz
    · rw [if_neg (fun h => h1 h.1)] at hp
      (repeat' walk_at "s")
      exact put H' ps cur ds c f g1 g2 hc1 hc2 hpl hp (om163 hn)
  · rintro loc H3 ⟨todo, ps, cur, ds, c, y, e1, rfl, hm, hn, hp, f, g1, g2, hc1, hc2, hpl⟩
    have : todo = [] := by cases todo with | nil => rfl | cons _ _ => cases e1
    subst this
    (repeat' (first | walk_at "s" | refine stepS rfl ?_))
    refine q _ _ _ f g1 ?_
    rw [← hp]
    exact (hpl.fr (Fr.refl [] _) (fun _ _ => by simp) (fun r _ _ h => h.1)).snoc hc1 g2
  · refine ⟨raws, [], [], [], H.length, none, rfl, ?_, fun _ h => h, by simp, rfl, (Fr.app ..).then (Fr.app ..), ?_, get_app (get_app1 rfl), Nat.le_refl _, by exact om130, trivial⟩
    · rw [costs_nil, List.length_append, List.length_singleton]; rfl
    · rw [get_app1 (by rw [List.length_append, List.length_singleton])]; rfl
end
noncomputable def fixB (ps : List (List B)) (ms cur : List B) : List (List B) × List B :=
  if cur = [] ∧ ps ≠ [] then (ps.dropLast ++ [(ps.getLastD []).dropLast, [ms.getLastD []]], ms.dropLast ++ [(ps.getLastD []).getLastD []]) else (ps ++ [cur], ms)
noncomputable def packB (room : Int) : List (List B) → List B → List B → List B → List (List B) × List B
  | ps, ms, cur, [] => fixB ps ms cur
  | ps, ms, cur, b :: r => if (costs cur : Int) + cost1 b > room ∧ cur ≠ [] then packB room (ps ++ [cur]) (ms ++ [b]) [] r else packB room ps ms (cur ++ [b]) r
theorem snoc_of {α : Type} {l : List α} (h : l ≠ []) : ∃ i x, l = i ++ [x] := ⟨l.dropLast, l.getLast h, (List.dropLast_concat_getLast h).symm⟩
theorem fixB_snoc (ps : List (List B)) (p ms : List B) (x y : B) : fixB (ps ++ [p ++ [x]]) (ms ++ [y]) [] = (ps ++ [p] ++ [[y]], ms ++ [x]) := by
  unfold fixB
  rw [if_pos ⟨rfl, by simp⟩]
  simp [List.getLastD_eq_getLast?]
theorem PL.snoc_inv {ok : Nat → Prop} {H : AH} {ps : List (List B)} {p : List B} : ∀ {rs : List Nat}, PL ok H rs (ps ++ [p]) → ∃ rs0 r, rs = rs0 ++ [r] ∧ ok r ∧ H[r]? = some (.list (bytL p)) ∧ PL ok H rs0 ps := by
  induction ps with
  | nil =>
    intro rs h
    match rs, h with
    | [r], ⟨⟨a, b⟩, _⟩ => exact ⟨[], r, rfl, a, b, trivial⟩
    | _ :: _ :: _, ⟨_, c⟩ => exact c.elim
  | cons q ps ih =>
    intro rs h
    match rs, h with
    | r :: rs, ⟨a, c⟩ =>
      obtain ⟨rs0, r0, e, h1, h2, h3⟩ := ih c
      exact ⟨r :: rs0, r0, by rw [e]; rfl, h1, h2, a, h3⟩
theorem PL.mem {ok : Nat → Prop} {H : AH} : ∀ {rs : List Nat} {ps : List (List B)}, PL ok H rs ps → ∀ r ∈ rs, ok r ∧ r < H.length
  | r :: rs, p :: ps, ⟨a, c⟩, x, hx => by
    rcases List.mem_cons.mp hx with rfl | h
    · exact ⟨a.1, get_lt a.2⟩
    · exact c.mem x h
  | [], _ :: _, h, _, _ => h.elim
  | _ :: _, [], h, _, _ => h.elim
theorem PL.inS {ok : Nat → Prop} {H : AH} {S : List Nat} : ∀ {rs : List Nat} {ps : List (List B)}, PL ok H rs ps → (∀ r ∈ rs, r ∈ S) → PL (fun r => ok r ∧ r ∈ S) H rs ps
  | [], [], _, _ => trivial
  | r :: rs, p :: ps, ⟨a, c⟩, h => ⟨⟨⟨a.1, h r (by simp)⟩, a.2⟩, c.inS fun x hx => h x (List.mem_cons_of_mem _ hx)⟩
  | [], _ :: _, h, _ => h.elim
  | _ :: _, [], h, _ => h.elim
section
variable {H H' : AH} {Q : PQ} {n : Nat}
theorem F_packed_between {r : Nat} {room : Int} {raws : List B} (hr : H[r]? = some (.list (bytL raws))) (hl : raws.length < 1000) (hb : ∀ b ∈ raws, b.length < 1000)
    (q : ∀ H' G M T ds, Fr [] H H' → H'[G]? = some (.list (refL ds)) → PL (fun i => H.length ≤ i) H' ds (packB room [] [] [] raws).1 → H'[M]? = some (.list (bytL (packB room [] [] [] raws).2)) → H'[T]? = some (.tup [.ref G, .ref M]) → H.length ≤ G ∧ H.length ≤ M ∧ G ≠ M → Q (.ref T) H') : Gam (n + 2) 238 [.ref r, .int room] H Q := by
  refine gam_go 21 [some (.ref r), some (.int room), none, none, none, none, none] rfl rfl rfl ?_
  (repeat' (first | walk_at "s" | refine stepS rfl ?_))
  refine ⟨lt_lit rfl, lt_lit rfl, ?_⟩
  (repeat' (first | walk_at "s" | refine stepS rfl ?_))
  refine ⟨lt_lit rfl, ?_⟩
  (repeat' (first | walk_at "s" | refine stepS rfl ?_))
  have hlen3 : (H ++ [AO.list []] ++ [AO.list [AV.ref (List.length H)]]).length = H.length + 2 := by simp
  refine ⟨_, get_app (get_app (get_app hr)), bL (om44 hl), ?_⟩
  rw [hlen3]
  have hrl := get_lt hr
  refine turns_inv (fun rest loc H' => ∃ todo ps ms cur ds c y, rest = bytL todo ∧ loc = [some (.ref r), some (.int room), some (.ref (H.length + 1)), some (.ref (H.length + 2)), some (.int (costs cur)), y, none] ∧ (∀ b ∈ todo, b ∈ raws) ∧ ps.length + cur.length + todo.length ≤ raws.length ∧
    packB room ps ms cur todo = packB room [] [] [] raws ∧ Fr [] H H' ∧ H'[H.length + 1]? = some (.list (refL (ds ++ [c]))) ∧ H'[H.length + 2]? = some (.list (bytL ms)) ∧ H'[c]? = some (.list (bytL cur)) ∧ H.length ≤ c ∧ c ≠ H.length + 1 ∧ c ≠ H.length + 2 ∧
    PL (fun i => H.length ≤ i ∧ i ≠ H.length + 1 ∧ i ≠ H.length + 2 ∧ i ≠ c) H' ds ps ∧ ps.length = ms.length ∧ (∀ p ∈ ps, p ≠ [] ∧ p.length ≤ raws.length) ∧ (ds ++ [c]).Nodup) ?_ ?_ ?_ _ _ _ ?_
  · rintro rest loc H' ⟨todo, ps, ms, cur, ds, c, y, rfl, rfl, hm, hn, hp, f, g1, g3, g2, hc1, hc2, hc3, hpl, hpm, hne, hnd⟩
    exact f.get _ _ hr (by simp)
  · rintro v rest loc H' K ⟨todo, ps, ms, cur, ds, c, y, e1, rfl, hm, hn, hp, f, g1, g3, g2, hc1, hc2, hc3, hpl, hpm, hne, hnd⟩ hK
    obtain _ | ⟨b, todo⟩ := todo
    · cases e1
    cases e1
    have hcl := get_lt g2
    have hpll := hpl.length
    have hbl' : b.length < 100000 := Nat.lt_trans (hb b (hm b (by simp))) (by decide)
    simp only [List.length_cons] at hn
    have hm' : ∀ x ∈ todo, x ∈ raws := fun x hx => hm x (List.mem_cons_of_mem _ hx)
    have hds : ds.length < 10000 := by exact om157 hl hn hpll
    have hmsl : ms.length < 100000 := by exact om170 hpm hpll hds
    have hcul : cur.length < 100000 := by exact om171 hl hn
    have hfin : packB room ps ms cur (b :: todo) = if (costs cur : Int) + cost1 b > room ∧ cur ≠ [] then packB room (ps ++ [cur]) (ms ++ [b]) [] todo else packB room ps ms (cur ++ [b]) todo := rfl
    rw [hfin] at hp
    -- the put of b onto the last page
    have put : ∀ (H2 : AH), Fr [] H' H2 → packB room ps ms (cur ++ [b]) todo = packB room [] [] [] raws →
        WSs (Gam (n + 1)) ir_packed_between_3b_0b [some (.ref r), some (.int room), some (.ref (H.length + 1)), some (.ref (H.length + 2)), some (.int (costs cur)), some (.byt b), none] H2 (thenS (fun loc H => WSs (Gam (n + 1)) .nil loc H (thenS K (endQ Q))) (thenS K (endQ Q))) := by
      intro H2 f2 k6
      have k1 := f2.get _ _ g1 (by simp)
      have k2 := f2.get _ _ g2 (by simp)
      have k3 := f2.get _ _ g3 (by simp)
      (repeat' (first | walk_at "s" | refine stepS rfl ?_))
      refine x_lastR k1 hds ?_
      (repeat' (first | walk_at "s" | refine stepS rfl ?_))
      refine ⟨⟨_, k2⟩, _, k2, bL hcul, trivial, ?_⟩
      (repeat' (first | walk_at "s" | refine stepS rfl ?_))
      refine F_cost hbl' ?_
      (repeat' (first | walk_at "s" | refine stepS rfl ?_))
      refine hK _ _ ⟨todo, ps, ms, cur ++ [b], ds, c, some (.byt b), rfl, ?_, hm', by rw [List.length_append, List.length_singleton]; exact om172 hn, k6, (f.then f2).trans (Fr.put (m := [c]) (by simp)) (by simp; exact om161 hc1), get_set_ne k1 hc2, get_set_ne k3 hc3, ?_, hc1, hc2, hc3, hpl.fr (f2.nil.then (Fr.put (m := [c]) (by simp))) (fun r h => by simp; exact h.2.2.2) (fun r _ _ h => h), hpm, hne, hnd⟩
      · rw [costs_app, costs_cons, costs_nil, Nat.add_zero]; rfl
      · rw [get_set_eq k2, bytL_snoc]
    (repeat' (first | walk_at "s" | refine stepS rfl ?_))
    refine F_cost hbl' ?_
    (repeat' (first | walk_at "s" | refine stepS rfl ?_))
    refine iteH_dec (fun h1 => ?_) (fun h1 => ?_)
    · (repeat' (first | walk_at "s" | refine stepS rfl ?_))
      refine x_lastR g1 hds ?_
      have f2 := Fr.app [] H' [AO.list []]
      refine ⟨lt_lit rfl, x_neR (get_app g2) get_len ?_⟩
      by_cases hcur : cur = []
      · refine .inr ⟨by rw [hcur]; rfl, rfl, ?_⟩
        (repeat' (first | walk_at "s" | refine stepS rfl ?_))
        rw [if_neg (fun h => h.2 hcur)] at hp
        exact put (H' ++ [AO.list []]) f2 hp
      · refine .inl ⟨by rw [bytL_length]; simpa using hcur, ?_⟩
        (repeat' (first | walk_at "s" | refine stepS rfl ?_))
        rw [if_pos ⟨h1, hcur⟩] at hp
        have hml := get_lt g3
        have hlH := f.len
        have hcz : cur.length ≠ 0 := by simpa using hcur
        have j3 := get_app (K := [AO.list []]) g3
        refine ⟨⟨_, j3⟩, _, j3, bL hmsl, trivial, ?_⟩
        have h12 : H.length + 2 ≠ H.length + 1 := by exact om173
        have j1 := fun y => get_set_ne (j := H.length + 2) (y := y) (get_app (K := [AO.list []]) g1) h12
        (repeat' (first | walk_at "s" | refine stepS rfl ?_))
        have hlz : ((H' ++ [AO.list []]).set (H.length + 2) (.list (bytL ms ++ [.byt b]))).length = H'.length + 1 := by rw [List.length_set, List.length_append, List.length_singleton]
        rw [hlz]
        refine ⟨⟨_, j1 _⟩, lt_lit rfl, _, get_app (j1 _), rL (by rw [List.length_append, List.length_singleton]; exact om120 hds), trivial, ?_⟩
        have fk := fun (x1 x2 : AO) => show Fr [H.length + 1, H.length + 2] H' (((H' ++ [AO.list []]).set (H.length + 2) x1 ++ [AO.list []]).set (H.length + 1) x2) from f2.nil.then ((Fr.put (i := H.length + 2) (by simp)).then ((Fr.app _ _ [AO.list []]).then (Fr.put (i := H.length + 1) (by simp))))
        (repeat' (first | walk_at "s" | refine stepS rfl ?_))
        refine hK _ _ ⟨todo, ps ++ [cur], ms ++ [b], [], ds ++ [c], H'.length + 1, some (.byt b), rfl, rfl, hm', by rw [List.length_append, List.length_singleton, List.length_nil]; exact om174 hn, hp, f.trans (fk _ _) (by simp), ?_, ?_, get_set_ne (get_app1 hlz.symm) (om175 hml), by exact om176 hml, by exact om177 hml, by exact om178 hml, ?_, by rw [List.length_append, List.length_append, hpm]; rfl, ?_, ?_⟩
        · refine (get_set_eq (get_app (j1 _))).trans ?_
          rw [refL_snoc (ds ++ [c]) (H'.length + 1)]
        · refine get_set_ne (get_app ((get_set_eq j3).trans ?_)) h12.symm
          rw [bytL_snoc]
        · refine PL.snoc ⟨hc1, hc2, hc3, by exact om167 hcl⟩ ((fk _ _).get _ _ g2 (by simp; exact om179 hc2 hc3)) (hpl.fr (fk _ _) (fun r h => by simp; exact om180 h) (fun r x e h => ⟨h.1, h.2.1, h.2.2.1, fun q => ?_⟩))
          have := get_lt e
          exact (om168 q this).elim
        · intro p hp'
          rcases List.mem_append.mp hp' with h | h
          · exact hne p h
          · cases List.mem_singleton.mp h; exact ⟨hcur, by exact om181 hn⟩
        · refine List.nodup_append.mpr ⟨hnd, by simp, fun x hx z hz => ?_⟩
          cases List.mem_singleton.mp hz
          rcases List.mem_append.mp hx with h | h
          · have := (hpl.mem x h).2; exact om167 this
          · cases List.mem_singleton.mp h; exact om167 hcl
    · rw [if_neg (fun h => h1 h.1)] at hp
      (repeat' walk_at "s")
      exact put H' (Fr.refl ..) hp
  · rintro loc H3 ⟨todo, ps, ms, cur, ds, c, y, e1, rfl, hm, hn, hp, f, g1, g3, g2, hc1, hc2, hc3, hpl, hpm, hne, hnd⟩
    have : todo = [] := by cases todo with | nil => rfl | cons _ _ => cases e1
    subst this
    have hcl := get_lt g2
    have hml := get_lt g3
    have hGl := get_lt g1
    have hpll := hpl.length
    rw [show packB room ps ms cur [] = fixB ps ms cur from rfl] at hp
    simp only [List.length_nil, Nat.add_zero] at hn
    have hds : ds.length < 10000 := by exact om182 hl hn hpll
    -- the end, when nothing is to be mended
    have fin : ∀ H4, Fr [] H3 H4 → fixB ps ms cur = (ps ++ [cur], ms) → WSs (Gam (n + 1)) ir_packed_between_5 [some (.ref r), some (.int room), some (.ref (H.length + 1)), some (.ref (H.length + 2)), some (.int (costs cur)), y, none] H4 (endQ Q) := by
      intro H4 f4 hf
      (repeat' (first | walk_at "s" | refine stepS rfl ?_))
      rw [hf] at hp
      have f5 := f4.then (Fr.app [] H4 [.tup [.ref (H.length + 1), .ref (H.length + 2)]])
      refine ⟨⟨lt_lit rfl, List.cons_ne_nil _ _⟩, q _ _ _ _ (ds ++ [c]) (f.then f5) (f5.get _ _ g1 (by simp)) ?_ ?_ get_len om183⟩
      · rw [← hp]; exact PL.snoc hc1 (f5.get _ _ g2 (by simp)) (hpl.fr f5 (fun _ _ => by simp) (fun _ _ _ h => h.1))
      · rw [← hp]; exact f5.get _ _ g3 (by simp)
    (repeat' (first | walk_at "s" | refine stepS rfl ?_))
    refine x_len g1 (rL (by rw [List.length_append, List.length_singleton]; exact om120 hds)) ?_
    rw [refL_length]
    (repeat' (first | walk_at "s" | refine stepS rfl ?_))
    refine iteH_dec (fun h1 => ?_) (fun h1 => ?_)
    · have hps : ps ≠ [] := fun e => by
        rw [e, List.length_nil] at hpll; rw [List.length_append, List.length_singleton, hpll] at h1; exact om184 h1
      (repeat' (first | walk_at "s" | refine stepS rfl ?_))
      refine x_lastR g1 hds ?_
      refine ⟨lt_lit rfl, x_eqR (get_app g2) get_len ?_⟩
      by_cases hcur : cur = []
      · subst hcur
        refine .inr ⟨rfl, by simp [bytL], ?_⟩
        obtain ⟨ps0, p1, rfl⟩ := snoc_of hps
        have hp1l := (hne p1 (by simp)).2
        obtain ⟨p0, x, rfl⟩ := snoc_of (hne p1 (by simp)).1
        have hms : ms ≠ [] := fun e => by subst e; simp at hpm
        obtain ⟨ms0, z, rfl⟩ := snoc_of hms
        obtain ⟨ds0, d, rfl, hd, hdl, hpl0⟩ := hpl.snoc_inv
        rw [fixB_snoc] at hp
        have f4 := Fr.app [] H3 [AO.list []]
        have hdlt := get_lt hdl
        simp only [List.length_append, List.length_cons, List.length_nil] at hn hpm hpll hp1l
        have hdG : d ≠ H.length + 1 := hd.2.1
        have hdM : d ≠ H.length + 2 := hd.2.2.1
        have hdc : d ≠ c := hd.2.2.2
        have hdH := hd.1
        (repeat' (first | walk_at "s" | refine stepS rfl ?_))
        have k3 := f4.get _ _ g3 (by simp)
        rw [bytL_snoc] at k3
        refine ⟨⟨_, k3⟩, _, _, k3, bL (om185 hl hn hpm), ?_⟩
        have fM : ∀ x, Fr [H.length + 2] (H3 ++ [AO.list []]) ((H3 ++ [AO.list []]).set (H.length + 2) x) := fun x => Fr.put (by simp)
        (repeat' (first | walk_at "s" | refine stepS rfl ?_))
        refine ⟨⟨_, get_set_eq k3⟩, ?_⟩
        have g1r : refL (ds0 ++ [d] ++ [c]) = refL ds0 ++ [.ref d, .ref c] := by simp [refL]
        rw [g1r] at g1
        refine x_last2 ((fM _).get _ _ (f4.get _ _ g1 (by simp)) (by simp)) (rL (om186 hl hn hpll)) ?_
        (repeat' (first | walk_at "s" | refine stepS rfl ?_))
        have kd := (fM (.list (bytL ms0))).get _ _ (f4.get _ _ hdl (by simp)) (by simp; exact om187 hdM)
        rw [bytL_snoc] at kd
        refine ⟨⟨_, kd⟩, _, _, kd, bL (om188 hl hp1l), ?_⟩
        refine ⟨_, get_set_ne (get_set_eq k3) hdM, bL (om185 hl hn hpm), trivial, ?_⟩
        have fall : ∀ x1 x2 x3, Fr [H.length + 2, d] H3 ((((H3 ++ [AO.list []]).set (H.length + 2) x1).set d x2).set (H.length + 2) x3) := fun x1 x2 x3 => f4.nil.then ((Fr.put (by simp)).then ((Fr.put (by simp)).then (Fr.put (by simp))))
        have g1' : refL ds0 ++ [.ref d, .ref c] = refL (ds0 ++ [d] ++ [c]) := g1r.symm
        rw [g1'] at g1
        (repeat' (first | walk_at "s" | refine stepS rfl ?_))
        refine x_lastR (ds := ds0 ++ [d]) ((fall _ _ _).get _ _ g1 (by simp; exact om189 hdG)) (by rw [List.length_append, List.length_singleton]; exact om190 hl hn hpll) ?_
        have kc := fun x1 x2 x3 => (fall x1 x2 x3).get _ _ g2 (by simp; exact om191 hc3 hdc)
        (repeat' (first | walk_at "s" | refine stepS rfl ?_))
        refine ⟨⟨_, kc _ _ _⟩, _, kc _ _ _, lt_lit rfl, trivial, ?_⟩
        (repeat' (first | walk_at "s" | refine stepS rfl ?_))
        have fend : ∀ x1 x2 x3 x4 t, Fr [H.length + 2, d, c] H3 (((((H3 ++ [AO.list []]).set (H.length + 2) x1).set d x2).set (H.length + 2) x3).set c x4 ++ t) := fun x1 x2 x3 x4 t => (fall x1 x2 x3).mono (by simp) |>.then ((Fr.put (by simp)).then (Fr.app ..))
        refine ⟨⟨lt_lit rfl, List.cons_ne_nil _ _⟩, q _ _ _ _ (ds0 ++ [d] ++ [c]) (f.trans (fend _ _ _ _ _) (by simp; exact om192 hc1 hd)) ((fend _ _ _ _ _).get _ _ g1 (by simp; exact om193 hc2 hdG)) ?_ ?_ get_len om183⟩
        · rw [← hp]
          refine PL.snoc hc1 ?_ (PL.snoc hdH ?_ ((hpl0.inS (S := ds0) fun _ h => h).fr (fend _ _ _ _ _) (fun r h => ?_) (fun _ _ _ h => h.1.1)))
          · refine (get_app (get_set_eq (kc _ _ _))).trans ?_
            simp [bytL]
          · exact get_app (get_set_ne (get_set_ne (get_set_eq kd) (Ne.symm hdM)) (Ne.symm hdc))
          · have hrd : r ≠ d := fun e => by
              subst e
              have := (List.nodup_append.mp (List.nodup_append.mp hnd).1).2.2 r h.2 r (by simp)
              exact this rfl
            have := h.1
            simp; exact om194 hrd this
        · rw [← hp]
          refine (get_app (get_set_ne (get_set_eq (get_set_ne (get_set_eq k3) hdM)) hc3)).trans ?_
          rw [bytL_snoc]
      · refine .inl ⟨by rw [bytL_length]; simpa using hcur, ?_⟩
        (repeat' walk_at "s")
        exact fin _ (Fr.app [] H3 [AO.list []]) (by unfold fixB; rw [if_neg fun h => hcur h.1])
    · have hps : ps = [] := by
        cases ps with
        | nil => rfl
        | cons _ _ => exfalso; apply h1; rw [List.length_cons] at hpll; rw [List.length_append, List.length_singleton]; exact om195 hpll
      (repeat' walk_at "s")
      exact fin _ (Fr.refl [] H3) (by unfold fixB; rw [if_neg fun h => h.2 hps])
  · refine ⟨raws, [], [], [], [], H.length, none, rfl, ?_, fun _ h => h, by simp, rfl, (Fr.app ..).then ((Fr.app ..).then (Fr.app ..)), ?_, get_app1 hlen3.symm, get_app (get_app (get_app1 rfl)), Nat.le_refl _, by exact om130, by exact om196, trivial, rfl, by simp, by simp⟩
    · rw [costs_nil, List.length_append, List.length_singleton]; rfl
    · rw [get_app (get_app1 (by rw [List.length_append, List.length_singleton]))]; rfl
end
noncomputable def laidB (size k : Int) (pages : List (List B)) (rts : List Int) : List B := List.zipWith (fun p rt => pageB size k p rt) pages rts
noncomputable def above (first : Nat) : List B → List B
  | [] => []
  | m :: r => (four first ++ m) :: above (first + 1) r
theorem above_length (f : Nat) (ms : List B) : (above f ms).length = ms.length := by
  induction ms generalizing f with
  | nil => rfl
  | cons m r ih => simp [above, ih]
theorem above_app (f : Nat) (ms : List B) (m : B) : above f (ms ++ [m]) = above f ms ++ [four (f + ms.length : Nat) ++ m] := by
  induction ms generalizing f with
  | nil => simp [above]
  | cons x r ih =>
    simp only [List.cons_append, above, ih, List.length_cons]
    rw [show f + 1 + r.length = f + (r.length + 1) by exact om23]
theorem set_laid {pg laid : List B} {i : Nat} {z : B} (hi : i < laid.length) : (pg ++ laid.take i ++ List.replicate (laid.length - i) z).set (pg.length + i) (laid[i]) = pg ++ laid.take (i + 1) ++ List.replicate (laid.length - (i + 1)) z := by
  have h1 : (pg ++ laid.take i).length = pg.length + i := by simp; exact om24 hi
  rw [List.set_append_right _ _ (om25 h1), h1, Nat.sub_self]
  rw [show laid.length - i = (laid.length - (i + 1)) + 1 by exact om10 hi, List.replicate_succ, List.set_cons_zero]
  rw [List.take_succ_eq_append_getElem hi]
  simp only [List.append_assoc, List.cons_append, List.nil_append]
section
variable {H H' : AH} {Q : PQ} {n : Nat} {m : List Nat} {st d P S : Nat} {size : Nat} {pg : List B}
theorem new_write {k rt : Int} {raws : List B} {p r : Nat} (h : Sto H st d P S size pg) (hr' : H[r]? = some (.list (bytL raws))) (hl : raws.length < 1000) (hb : ∀ b ∈ raws, b.length < 1000) (hc : (costs raws : Int) ≤ size - headK k) (hs : size ≤ 1000) (hk : 0 ≤ k ∧ k < 256) (hr : 0 ≤ rt ∧ rt < 65536)
    (hp : p ≠ 0) (hpl : p < pg.length) (hpg : pg.length < 10000) (hpb : ∀ b ∈ pg, b.length < 10000)
    (q : ∀ H', Fr [P] H H' → Sto H' st d P S size (pg.set p (pageB size k raws rt)) → Q .none H') :
    Gam (n + 5) 189 [.ref (H.length + 1), .int k, .ref r, .int rt] (H ++ [.dict [], .inst 199 H.length]) (fun v H2 => v = .none ∧ Gam (n + 5) 217 [.ref st, .int (p + 1), .ref (H.length + 1)] H2 Q) := by
  refine F_content_init ⟨rfl, ?_⟩
  have f := Fr.app [] H [.dict [(.kind, .int k), (.raws, .ref r), (.right, .int rt)], .inst 199 H.length]
  exact F_write_content (e := H.length) (h.fr0 f) ⟨by simp, by simp, f.get _ _ hr' (by simp)⟩ hl hb hc hs hk hr hp hpl hpg hpb fun H' f' s => q H' (f.nil.then f') s
/-- the cells above -/
theorem ret_above {caps : Loc} {ms : List B} {elt : IE} {Q : List AV → AH → Prop}
    (he : ∀ (i : Nat) (b : B) H' (Q' : PQ), ms[i]? = some b → Fr [] H H' → (∀ K, Q' (.byt (four (pg.length + 1 + i : Nat) ++ b)) (H' ++ K)) → WE (Gam n) elt (some (.int i) :: caps) H' Q')
    (q : ∀ H', Fr [] H H' → Q (bytL (above (pg.length + 1) ms)) H') :
    compS (Gam n) elt caps (fun _ => True) ((List.range ms.length).map fun (i : Nat) => AV.int i) [] H Q := by
  refine comp_inv (fun rest acc H' => ∃ i, i ≤ ms.length ∧ rest = ((List.range ms.length).drop i).map (fun (i : Nat) => AV.int i) ∧ acc = bytL (above (pg.length + 1) (ms.take i)) ∧ Fr [] H H') ?_ ?_ ?_ _ _ _ ⟨0, by exact om26, by simp, rfl, Fr.refl ..⟩
  · intros; trivial
  · rintro v rest acc H' Q' ⟨i, hi, e1, rfl, f⟩ k
    obtain ⟨hlt, rfl, rfl⟩ := rng_cons e1
    refine he i ms[i] H' Q' (List.getElem?_eq_getElem hlt) f fun K => k _ _ ⟨i + 1, hlt, rfl, ?_, f.then (Fr.app ..)⟩
    rw [List.take_succ_eq_append_getElem hlt, above_app, bytL_snoc, List.length_take, Nat.min_eq_left hi]
  · rintro acc H' ⟨i, hi, e1, rfl, f⟩
    cases rng_nil hi e1
    rw [List.take_length]
    exact q _ f
end
/-- pages that can be written -/
noncomputable def Fits (size : Nat) (k : Int) (pages : List (List B)) : Prop := ∀ p ∈ pages, (∀ b ∈ p, b.length < 1000) ∧ (costs p : Int) ≤ size - headK k ∧ p.length < 1000
theorem laidB_get {size k : Int} {pages : List (List B)} {rts : List Int} {i : Nat} (h1 : i < pages.length) (h2 : i < rts.length) (h3 : i < (laidB size k pages rts).length) : (laidB size k pages rts)[i] = pageB size k pages[i] rts[i] := by
  exact List.getElem_zipWith (f := fun p rt => pageB size k p rt) (l := pages) (l' := rts) (h := h3)
theorem laidB_length {size k : Int} {pages : List (List B)} {rts : List Int} (h : rts.length = pages.length) : (laidB size k pages rts).length = pages.length := by
  unfold laidB; rw [List.length_zipWith, h, Nat.min_self]
theorem laidB_short {size : Nat} {k : Int} {pages : List (List B)} {rts : List Int} (h : Fits size k pages) (hs : size ≤ 1000) : ∀ b ∈ laidB size k pages rts, b.length < 10000 := by
  intro b hb
  obtain ⟨i, hi, rfl⟩ := List.getElem_of_mem hb
  have h1 : i < pages.length := by unfold laidB at hi; rw [List.length_zipWith] at hi; exact om27 hi
  have h2 : i < rts.length := by unfold laidB at hi; rw [List.length_zipWith] at hi; exact om28 hi
  rw [laidB_get h1 h2]
  have := pageB_length (rt := rts[i]) (h pages[i] (List.getElem_mem h1)).2.1
  exact om29 hs this
section
variable {H H' : AH} {Q : PQ} {n : Nat} {m : List Nat} {st d P S : Nat} {size : Nat} {pg : List B}
/-- one page written, the i-th of the new ones -/
theorem write_ith {k : Int} {pages : List (List B)} {rts : List Int} {ok : Nat → Prop} {ds : List Nat} {i N G : Nat} {rt : Int} {Q : AV → AH → Prop} (h : Sto H st d P S size (pg ++ (laidB size k pages rts).take i ++ List.replicate (pages.length - i) (zeros size)))
    (hG : H[G]? = some (.list (refL ds))) (hN : H[N]? = some (.list ((List.range pages.length).map fun (i : Nat) => .int (pg.length + 1 + i : Nat)))) (hpl : PL ok H ds pages) (hf : Fits size k pages) (hi : i < pages.length) (hrl : rts.length = pages.length) (hs : size ≤ 1000) (hk : 0 ≤ k ∧ k < 256) (hr : ∀ r ∈ rts, 0 ≤ r ∧ r < 65536)
    (hpn : pages.length ≤ 1000) (hp : pg ≠ []) (hpg : pg.length < 5000) (hpb : ∀ b ∈ pg, b.length < 10000) (hrt : rts[i]? = some rt)
    (q : ∀ H', Fr [P] H H' → Sto H' st d P S size (pg ++ (laidB size k pages rts).take (i + 1) ++ List.replicate (pages.length - (i + 1)) (zeros size)) → Q .none H') :
    idxA (.ref N) (.int i) H fun a H => idxA (.ref G) (.int i) H fun v H =>
      ∃ f, initOf 199 = some f ∧ Gam (n + 5) f [.ref (H.length + 1), .int k, v, .int rt] (H ++ [.dict [], .inst 199 H.length]) (fun r H' => r = .none ∧ Gam (n + 5) 217 [.ref st, a, .ref (H.length + 1)] H' Q) := by
  obtain ⟨r, hr1, _, hr2⟩ := hpl.get (List.getElem?_eq_getElem hi)
  have hll := laidB_length (size := size) (k := k) hrl
  refine x_idx hN (rng_len (om30 hpn)) (rng_get hi) ?_
  refine x_idx hG (rL (by rw [hpl.length]; exact om30 hpn)) (v := .ref r) (by rw [refL, List.getElem?_map, hr1]; rfl) ?_
  refine ⟨189, rfl, ?_⟩
  rw [show ((pg.length + 1 + i : Nat) : Int) = ((pg.length + i : Nat) : Int) + 1 by exact om31]
  obtain ⟨hb, hc, hl⟩ := hf pages[i] (List.getElem_mem hi)
  have hlen : (pg ++ (laidB size k pages rts).take i ++ List.replicate (pages.length - i) (zeros size)).length = pg.length + pages.length := by simp; exact om32 hll
  have hpz : pg.length ≠ 0 := by simpa using hp
  refine new_write (rt := rt) h hr2 hl hb hc hs hk (hr rt (List.mem_of_getElem? hrt)) (om33 hpz) (om34 hi hlen) (om35 hpn hpg hlen) ?_ fun H' f s => q H' f ?_
  · intro b hb'
    rcases List.mem_append.mp hb' with g | g
    · rcases List.mem_append.mp g with g | g
      · exact hpb b g
      · exact laidB_short hf hs b (List.mem_of_mem_take g)
    · rw [List.eq_of_mem_replicate g]; simp [zeros]; exact om36 hs
  · have hi2 : i < rts.length := by exact om37 hi hrl
    have hi3 : i < (laidB size k pages rts).length := by exact om37 hi hll
    have e := set_laid (pg := pg) (z := zeros size) hi3
    rw [hll, laidB_get hi hi2 hi3] at e
    rw [List.getElem?_eq_getElem hi2] at hrt
    cases hrt
    rw [e] at s
    exact s
end
section
variable {H H' : AH} {Q : PQ} {n : Nat} {m : List Nat} {st d P S : Nat} {size : Nat} {pg : List B}
noncomputable def zs (n : Nat) : List Int := List.replicate n 0
theorem leaves_tail {k : Int} {pages : List (List B)} {ms : List B} {ok : Nat → Prop} {ds : List Nat} {M G r : Nat} {room : Int} {y : Option AV} (h : Sto H st d P S size pg)
    (hG : H[G]? = some (.list (refL ds))) (hM : H[M]? = some (.list (bytL ms))) (hpl : PL ok H ds pages) (hf : Fits size k pages) (hne : pages ≠ []) (hml : ms.length ≤ pages.length) (hmb : ∀ b ∈ ms, b.length < 1000)
    (hPG : G ≠ P) (hPM : M ≠ P) (hok : ∀ r, ok r → r ≠ P) (hs : size ≤ 1000) (hk : 0 ≤ k ∧ k < 256) (hpn : pages.length < 1000) (hp : pg ≠ []) (hpg : pg.length < 5000) (hpb : ∀ b ∈ pg, b.length < 10000)
    (q : ∀ H' T L, Fr [P] H H' → Sto H' st d P S size (pg ++ laidB size k pages (zs pages.length)) → H'[T]? = some (.tup [.ref L, .int (pg.length + pages.length : Nat)]) → H'[L]? = some (.list (bytL (above (pg.length + 1) ms))) → Q (.ref T) H') :
    WSs (Gam (n + 5)) ir_store_leaves_3 [some (.ref st), some (.int k), some (.ref r), some (.int room), some (.ref M), some (.ref G), y, none, none] H (endQ Q) := by
  have hdl := hpl.length
  have hz : (zs pages.length).length = pages.length := by simp [zs]
  have hll := laidB_length (size := size) (k := k) hz
  (repeat' (first | walk_at "s" | refine stepS rfl ?_))
  have hGl : (refL ds).length < 100000 := rL (om38 hpn hdl)
  refine x_len hG hGl ?_
  rw [refL_length, hdl]
  refine F_new_pages h hpn hs hpg fun H1 N f1 s1 hN hNl => ?_
  have hNP : N ≠ P := fun e => by have := get_lt h.pgs; exact (om39 hNl e this).elim
  have oG : G ∉ [P] := by simpa using hPG
  have oM : M ∉ [P] := by simpa using hPM
  have oN : N ∉ [P] := by simpa using hNP
  have oL : ∀ r, ok r → r ∉ [P] := fun r h => by simpa using hok r h
  have hG1 := f1.get _ _ hG oG
  have hM1 := f1.get _ _ hM oM
  have hpl1 := hpl.fr f1 oL (fun _ _ _ h => h)
  have hMl : (bytL ms).length < 100000 := bL (om40 hml hpn)
  (repeat' (first | walk_at "s" | refine stepS rfl ?_))
  refine x_len hG1 hGl ?_
  (repeat' (first | walk_at "s" | refine stepS rfl ?_))
  rw [refL_length, hdl, upto_one, Int.toNat_natCast]
  refine ⟨by exact om41 hpn, ?_⟩
  refine turns_inv (fun rest loc H' => ∃ i x, i ≤ pages.length ∧ rest = ((List.range pages.length).drop i).map (fun (i : Nat) => AV.int i) ∧
    loc = [some (.ref st), some (.int k), some (.ref r), some (.int room), some (.ref M), some (.ref G), y, some (.ref N), x] ∧ Fr [P] H1 H' ∧
    Sto H' st d P S size (pg ++ (laidB size k pages (zs pages.length)).take i ++ List.replicate (pages.length - i) (zeros size))) ?_ ?_ ?_ _ _ _ ⟨0, none, Nat.zero_le _, by simp, rfl, Fr.refl .., by simpa using s1⟩
  · intros; trivial
  · rintro v rest loc H' K ⟨i, x, hi, e1, rfl, f, s⟩ hK
    obtain ⟨hlt, rfl, rfl⟩ := rng_cons e1
    (repeat' (first | walk_at "s" | refine stepS rfl ?_))
    refine write_ith s (f.get _ _ hG1 oG) (f.get _ _ hN oN) (hpl1.fr f oL (fun _ _ _ h => h)) hf hlt hz hs hk (fun r hr => ?_) (om42 hpn) hp hpg hpb (rt := 0) (by simp [zs, hlt]) fun H2 f2 s2 => ?_
    · rw [List.eq_of_mem_replicate hr]; decide
    · refine ⟨trivial, ?_⟩
      (repeat' (first | walk_at "s" | refine stepS rfl ?_))
      exact hK _ _ ⟨i + 1, _, hlt, rfl, rfl, f.then f2, s2⟩
  · rintro loc H2 ⟨i, x, hi, e1, rfl, f, s⟩
    cases rng_nil hi e1
    rw [Nat.sub_self, List.replicate_zero, List.append_nil, List.take_of_length_le (Nat.le_of_eq hll)] at s
    (repeat' (first | walk_at "s" | refine stepS rfl ?_))
    have hM2 := f.get _ _ hM1 oM
    have hN2 := f.get _ _ hN oN
    refine x_len hM2 hMl ?_
    (repeat' (first | walk_at "s" | refine stepS rfl ?_))
    rw [bytL_length, Int.toNat_natCast]
    refine ⟨by exact om43 hml hpn, ?_⟩
    refine ret_above (pg := pg) (ms := ms) (fun i b H3 Q' hib f3 k => ?_) fun H3 f3 => ?_
    · have hil : i < ms.length := (List.getElem?_eq_some_iff.mp hib).1
      simp only [capsOf, List.map_cons, List.map_nil, List.getElem?_cons_zero, List.getElem?_cons_succ, Option.getD_some]
      (repeat' (first | walk_at "s" | refine stepS rfl ?_))
      refine x_idx (f3.get _ _ hN2 (by simp)) (rng_len (om44 hpn)) (rng_get (Nat.lt_of_lt_of_le hil hml)) ?_
      refine F_four_octets (om45 hml hpn hpg hil) fun z => ?_
      (repeat' (first | walk_at "s" | refine stepS rfl ?_))
      refine x_idx (get_app (f3.get _ _ hM2 (by simp))) hMl (v := .byt b) (by rw [bytL, List.getElem?_map, hib]; rfl) ?_
      have := hmb b (List.mem_of_getElem? hib)
      exact ⟨by simp [four]; exact om46 this, k _⟩
    · have f4 := Fr.app [] H3 [.list (bytL (above (pg.length + 1) ms))]
      have hpz : pages.length ≠ 0 := by simpa using hne
      obtain ⟨j, hj⟩ : ∃ j, pages.length = j + 1 := ⟨pages.length - 1, by exact om47 hpz⟩
      refine x_last (v := .int (pg.length + pages.length : Nat)) (vs := (List.range j).map fun (i : Nat) => .int (pg.length + 1 + i : Nat)) ?_ (rng_len (om48 hpn hj)) ?_
      · rw [(f3.then f4).get _ _ hN2 (by simp), hj, List.range_succ, List.map_append, List.map_cons, List.map_nil, show pg.length + 1 + j = pg.length + (j + 1) by exact om23]
      refine ⟨⟨lt_lit rfl, List.cons_ne_nil _ _⟩, q _ _ _ (f1.then (f.then ((f3.then (f4.then (Fr.app ..))).nil))) (s.fr0 (f3.then (f4.then (Fr.app ..)))) get_len (get_app get_len)⟩
end
section
variable {H H' : AH} {Q : PQ} {n : Nat} {m : List Nat} {st d P S : Nat} {size : Nat} {pg : List B}
/-- what a page of rows tells above it -/
noncomputable def rowOf (p : List B) : B := ((p.getLastD []).drop 1).take 1
noncomputable def RowEnd (p : List B) : Prop := ∃ p0 u v t, p = p0 ++ [u :: v :: t] ∧ u.toNat < 128 ∧ v.toNat < 128
theorem ub_toNat (v : UInt8) : ub (v.toNat : Int) = v := by simp [ub]
theorem F_store_leaves13 {r : Nat} {raws : List B} (h : Sto H st d P S size pg) (hr : H[r]? = some (.list (bytL raws))) (hl : raws.length < 1000) (hb : ∀ b ∈ raws, b.length < 1000)
    (hf : Fits size 13 (packR (size - 8) [] [] raws)) (hne : packR (size - 8) [] [] raws ≠ []) (hend : ∀ p ∈ (packR (size - 8) [] [] raws).dropLast, RowEnd p) (hs : size ≤ 1000) (hpn : (packR (size - 8) [] [] raws).length < 1000) (hp : pg ≠ []) (hpg : pg.length < 5000) (hpb : ∀ b ∈ pg, b.length < 10000)
    (q : ∀ H' T L, Fr [P] H H' → Sto H' st d P S size (pg ++ laidB size 13 (packR (size - 8) [] [] raws) (zs (packR (size - 8) [] [] raws).length)) → H'[T]? = some (.tup [.ref L, .int (pg.length + (packR (size - 8) [] [] raws).length : Nat)]) → H'[L]? = some (.list (bytL (above (pg.length + 1) ((packR (size - 8) [] [] raws).dropLast.map rowOf)))) → Q (.ref T) H') :
    Gam (n + 6) 248 [.ref st, .int 13, .ref r] H Q := by
  refine gam_go 23 [some (.ref st), some (.int 13), some (.ref r), none, none, none, none, none, none] rfl rfl rfl ?_
  generalize hpk : packR ((size : Int) - 8) [] [] raws = pages at *
  (repeat' (first | walk_at "s" | refine stepS rfl ?_))
  refine h.r_size (F_capacity (by decide) ?_)
  rw [show headK 13 = 8 from rfl]
  (repeat' (first | walk_at "s" | refine stepS rfl ?_))
  refine ⟨lt_lit rfl, ?_⟩
  have f1 := Fr.app [] H [AO.list []]
  (repeat' (first | walk_at "s" | refine stepS rfl ?_))
  try rw [show decide ((13 : Int) = 13) = true from rfl]
  (repeat' (first | walk_at "s" | refine stepS rfl ?_))
  refine F_packed_rows (get_app hr) hl hb fun H2 G ds f2 hG hpl => ?_
  rw [hpk] at hpl
  have hM2 := f2.get _ _ get_len (by simp)
  have lP := get_lt h.pgs
  have h2 := h.fr0 (f1.then f2)
  have hdl := hpl.length
  have hdz : ds ≠ [] := fun e => by rw [e] at hdl; exact hne (List.length_eq_zero_iff.mp hdl.symm)
  have notR : ∀ (bs : List B), bs ≠ [] ∨ bs = [] → refL ds ≠ bytL bs := fun bs _ e => by
    cases ds with
    | nil => exact hdz rfl
    | cons x xs => cases bs <;> simp [refL, bytL] at e
  have hGP : G ≠ P := fun e => by
    have := h2.pgs; rw [← e, hG] at this
    injection this with this; injection this with this
    exact notR pg (.inl hp) this
  have hGl : (refL ds).length < 100000 := rL (om38 hpn hdl)
  (repeat' (first | walk_at "s" | refine stepS rfl ?_))
  refine ⟨_, hG, hGl, ?_⟩
  rw [cut_init, show (refL ds).dropLast = refL ds.dropLast by simp [refL]]
  (repeat' (first | walk_at "s" | refine stepS rfl ?_))
  refine ⟨_, get_len, rL (by rw [List.length_dropLast]; exact om49 hpn hdl), ?_⟩
  have hplD : PL (fun i => (H ++ [AO.list []]).length ≤ i) H2 ds.dropLast pages.dropLast := by
    obtain ⟨ps0, p, e⟩ := snoc_of hne
    rw [e] at hpl ⊢
    obtain ⟨ds0, dl, rfl, _, _, h3⟩ := hpl.snoc_inv
    simpa using h3
  have f3 := Fr.app [] H2 [AO.list (refL ds.dropLast)]
  have hlH : (H ++ [AO.list []]).length = H.length + 1 := by rw [List.length_append, List.length_singleton]
  have hlH2 := f2.len
  generalize hpD : pages.dropLast = pD at *
  have oM : ∀ r, (H ++ [AO.list []]).length ≤ r → r ∉ [H.length] := fun r h => by rw [hlH] at h; simp; exact om50 h
  refine turns_inv (fun rest loc H' => ∃ done todo dd dt y, rest = refL dt ∧ pD = done ++ todo ∧ ds.dropLast = dd ++ dt ∧ loc = [some (.ref st), some (.int 13), some (.ref r), some (.int (size - 8)), some (.ref H.length), some (.ref G), y, none, none] ∧
    Fr [H.length] (H2 ++ [AO.list (refL ds.dropLast)]) H' ∧ H'[H.length]? = some (.list (bytL (done.map rowOf))) ∧ PL (fun i => (H ++ [AO.list []]).length ≤ i) H' dt todo) ?_ ?_ ?_ _ _ _ ⟨[], pD, [], ds.dropLast, none, rfl, rfl, rfl, rfl, Fr.refl .., f3.get _ _ hM2 (by simp), hplD.fr f3 (by simp) (fun _ _ _ h => h)⟩
  · rintro rest loc H' ⟨done, todo, dd, dt, y, rfl, e1, e2, rfl, f, hM, hP⟩
    exact f.get _ _ get_len (by simp; exact om51 hlH hlH2)
  · rintro v rest loc H' K ⟨done, todo, dd, dt, y, e0, e1, e2, rfl, f, hM, hP⟩ hK
    obtain _ | ⟨r1, dt⟩ := dt
    · cases e0
    cases e0
    obtain _ | ⟨p, todo⟩ := todo
    · exact hP.elim
    obtain ⟨⟨ho, hr1⟩, hP'⟩ := hP
    obtain ⟨p0, u, v, t, rfl, hu, hv⟩ := hend p (by rw [e1]; simp)
    have hmem : p0 ++ [u :: v :: t] ∈ pages := List.dropLast_subset _ (by rw [hpD, e1]; simp)
    have hpl2 : (p0 ++ [u :: v :: t]).length < 1000 := (hf _ hmem).2.2
    have htl : (u :: v :: t).length < 1000 := (hf _ hmem).1 _ (by simp)
    simp only [List.length_append, List.length_cons, List.length_nil] at hpl2 htl
    have hdn : done.length < 100000 := by
      have := congrArg List.length e1
      rw [← hpD, List.length_dropLast, List.length_append] at this
      exact om52 hpn this
    (repeat' (first | walk_at "s" | refine stepS rfl ?_))
    refine ⟨⟨_, hM⟩, ?_⟩
    rw [bytL_snoc] at hr1
    refine x_last hr1 (bL (om53 hpl2)) ?_
    refine F_leaf_rowid hu hv (om54 htl) fun K2 => ?_
    refine F_put_varint om55 (om56 hv) fun z => ?_
    rw [ub_toNat]
    refine ⟨_, get_app (get_app hM), bL (by rw [List.length_map]; exact hdn), trivial, ?_⟩
    have ff : Fr [H.length] H' ((H' ++ K2 ++ [z]).set H.length (.list (bytL (done.map rowOf) ++ [.byt [v]]))) := (Fr.app ..).then ((Fr.app ..).then (Fr.put (by simp)))
    (repeat' (first | walk_at "s" | refine stepS rfl ?_))
    refine hK _ _ ⟨done ++ [p0 ++ [u :: v :: t]], todo, dd ++ [r1], dt, _, rfl, by simp [e1], by simp [e2], rfl, f.then ff, ?_, hP'.fr ff oM (fun _ _ _ h => h)⟩
    refine (get_set_eq (get_app (get_app hM))).trans ?_
    rw [List.map_append, List.map_cons, List.map_nil, bytL_snoc]
    simp [rowOf, List.getLastD_eq_getLast?]
  · rintro loc H' ⟨done, todo, dd, dt, y, e0, e1, e2, rfl, f, hM, hP⟩
    have : dt = [] := by cases dt with | nil => rfl | cons _ _ => cases e0
    subst this
    have : todo = [] := by cases todo with | nil => rfl | cons _ _ => exact hP.elim
    subst this
    rw [List.append_nil] at e1
    subst e1
    have hGM : G ≠ H.length := fun e => by
      rw [← e, hG] at hM2
      injection hM2 with this; injection this with this
      exact notR [] (.inr rfl) this
    have ff : Fr [H.length] H2 H' := f3.nil.then f
    have fH : Fr [] H H' := (f1.then f2).trans ff (by simp)
    (repeat' (first | walk_at "s" | refine stepS rfl ?_))
    refine leaves_tail (n := n) (r := r) (room := size - 8) (y := y) (h.fr0 fH) (ff.get _ _ hG (by simpa using hGM)) hM (hpl.fr ff oM (fun _ _ _ h => h)) hf hne ?_ ?_ hGP (om57 lP) (fun r h => by rw [hlH] at h; exact om58 lP h) hs (by decide) hpn hp hpg hpb (Q := Q) (fun H3 T L f3 s3 t1 t2 => q H3 T L (fH.nil.then f3) s3 t1 t2)
    · rw [List.length_map, ← hpD, List.length_dropLast]; exact om59
    · intro b hb'
      obtain ⟨p, _, rfl⟩ := List.mem_map.mp hb'
      unfold rowOf; rw [List.length_take]; exact om60
end
section
variable {H H' : AH} {Q : PQ} {n : Nat} {m : List Nat} {st d P S : Nat} {size : Nat} {pg : List B}
theorem F_store_leaves10 {r : Nat} {raws : List B} {pages : List (List B)} {ms : List B} (h : Sto H st d P S size pg) (hr : H[r]? = some (.list (bytL raws))) (hl : raws.length < 1000) (hb : ∀ b ∈ raws, b.length < 1000)
    (hpk : packB (size - 8) [] [] [] raws = (pages, ms)) (hf : Fits size 10 pages) (hne : pages ≠ []) (hml : ms.length ≤ pages.length) (hmb : ∀ b ∈ ms, b.length < 1000) (hs : size ≤ 1000) (hpn : pages.length < 1000) (hp : pg ≠ []) (hpg : pg.length < 5000) (hpb : ∀ b ∈ pg, b.length < 10000)
    (q : ∀ H' T L, Fr [P] H H' → Sto H' st d P S size (pg ++ laidB size 10 pages (zs pages.length)) → H'[T]? = some (.tup [.ref L, .int (pg.length + pages.length : Nat)]) → H'[L]? = some (.list (bytL (above (pg.length + 1) ms))) → Q (.ref T) H') :
    Gam (n + 6) 248 [.ref st, .int 10, .ref r] H Q := by
  refine gam_go 23 [some (.ref st), some (.int 10), some (.ref r), none, none, none, none, none, none] rfl rfl rfl ?_
  (repeat' (first | walk_at "s" | refine stepS rfl ?_))
  refine h.r_size (F_capacity (by decide) ?_)
  rw [show headK 10 = 8 from rfl]
  (repeat' (first | walk_at "s" | refine stepS rfl ?_))
  refine ⟨lt_lit rfl, ?_⟩
  have f1 := Fr.app [] H [AO.list []]
  (repeat' (first | walk_at "s" | refine stepS rfl ?_))
  try rw [show decide ((10 : Int) = 13) = false from rfl]
  (repeat' (first | walk_at "s" | refine stepS rfl ?_))
  refine F_packed_between (get_app hr) hl hb fun H2 G M T ds f2 hG hpl hM hT hGM => ?_
  rw [hpk] at hpl hM
  dsimp only at hpl hM
  have lP := get_lt h.pgs
  have hl1 : (H ++ [AO.list []]).length = H.length + 1 := by rw [List.length_append, List.length_singleton]
  have fH := f1.then f2
  (repeat' (first | walk_at "s" | refine stepS rfl ?_))
  refine ⟨_, hT, rfl, ?_⟩
  (repeat' walk_at "s")
  exact leaves_tail (n := n) (r := r) (room := size - 8) (y := none) (h.fr0 fH) hG hM hpl hf hne hml hmb (om61 hGM lP hl1) (om62 hGM lP hl1) (fun r h => by rw [hl1] at h; exact om58 lP h) hs (by decide) hpn hp hpg hpb (Q := Q) (fun H3 T L f3 s3 t1 t2 => q H3 T L (fH.nil.then f3) s3 t1 t2)
theorem F_store_inner {k rt : Int} {r : Nat} {raws : List B} {pages : List (List B)} {ms : List B} {rts : List Int} (h : Sto H st d P S size pg) (hr : H[r]? = some (.list (bytL raws))) (hl : raws.length < 1000) (hb : ∀ b ∈ raws, b.length < 1000)
    (hpk : packB (size - headK k) [] [] [] raws = (pages, ms)) (hf : Fits size k pages) (hml : ms.length + 1 = pages.length) (hmb : ∀ b ∈ ms, b.length < 1000) (hs : size ≤ 1000) (hk : 0 ≤ k ∧ k < 256) (hrl : rts.length = pages.length) (hrb : ∀ r ∈ rts, 0 ≤ r ∧ r < 65536)
    (hrt : rts[ms.length]? = some rt) (hrm : ∀ (i : Nat) b, ms[i]? = some b → ∃ c t, b = four c ++ t ∧ rts[i]? = some c)
    (hpn : pages.length < 1000) (hp : pg ≠ []) (hpg : pg.length < 5000) (hpb : ∀ b ∈ pg, b.length < 10000)
    (q : ∀ H' T L, Fr [P] H H' → Sto H' st d P S size (pg ++ laidB size k pages rts) → H'[T]? = some (.tup [.ref L, .int (pg.length + pages.length : Nat)]) → H'[L]? = some (.list (bytL (above (pg.length + 1) (ms.map (·.drop 4))))) → Q (.ref T) H') :
    Gam (n + 6) 253 [.ref st, .int k, .ref r, .int rt] H Q := by
  refine gam_go 24 [some (.ref st), some (.int k), some (.ref r), some (.int rt), none, none, none, none, none] rfl rfl rfl ?_
  (repeat' (first | walk_at "s" | refine stepS rfl ?_))
  refine h.r_size (F_capacity (by decide) ?_)
  refine F_packed_between hr hl hb fun H1 G M T ds f1 hG hpl hM hT hGM => ?_
  rw [hpk] at hpl hM
  dsimp only at hpl hM
  have lP := get_lt h.pgs
  have h1 := h.fr0 f1
  have hdl := hpl.length
  have hll := laidB_length (size := size) (k := k) hrl
  have hGl : (refL ds).length < 100000 := rL (om38 hpn hdl)
  have hMl : (bytL ms).length < 100000 := bL (om63 hml hpn)
  (repeat' (first | walk_at "s" | refine stepS rfl ?_))
  refine ⟨_, hT, rfl, ?_⟩
  (repeat' (first | walk_at "s" | refine stepS rfl ?_))
  refine x_len hG hGl ?_
  rw [refL_length, hdl]
  refine F_new_pages h1 hpn hs hpg fun H2 N f2 s2 hN hNl => ?_
  have hNP : N ≠ P := fun e => by have := get_lt h1.pgs; exact (om39 hNl e this).elim
  have oG : G ∉ [P] := by simp; exact om64 hGM lP
  have oM : M ∉ [P] := by simp; exact om65 hGM lP
  have oN : N ∉ [P] := by simpa using hNP
  have hok : ∀ r, H.length ≤ r → r ∉ [P] := fun r h => by simp; exact om66 lP h
  have hG2 := f2.get _ _ hG oG
  have hM2 := f2.get _ _ hM oM
  have hpl2 := hpl.fr f2 hok (fun _ _ _ h => h)
  (repeat' (first | walk_at "s" | refine stepS rfl ?_))
  refine x_len hG2 hGl ?_
  (repeat' (first | walk_at "s" | refine stepS rfl ?_))
  rw [refL_length, hdl, upto_one, Int.toNat_natCast]
  refine ⟨by exact om41 hpn, ?_⟩
  refine turns_inv (fun rest loc H' => ∃ i x y, i ≤ pages.length ∧ rest = ((List.range pages.length).drop i).map (fun (i : Nat) => AV.int i) ∧
    loc = [some (.ref st), some (.int k), some (.ref r), some (.int rt), some (.ref G), some (.ref M), some (.ref N), x, y] ∧ Fr [P] H2 H' ∧
    Sto H' st d P S size (pg ++ (laidB size k pages rts).take i ++ List.replicate (pages.length - i) (zeros size))) ?_ ?_ ?_ _ _ _ ⟨0, none, none, Nat.zero_le _, by simp, rfl, Fr.refl .., by simpa using s2⟩
  · intros; trivial
  · rintro v rest loc H' K ⟨i, x, y, hi, e1, rfl, f, s⟩ hK
    obtain ⟨hlt, rfl, rfl⟩ := rng_cons e1
    have hM3 := f.get _ _ hM2 oM
    have wr : ∀ c, rts[i]? = some c → WSs (Gam (n + 5)) ir_store_inner_2b_2 [some (.ref st), some (.int k), some (.ref r), some (.int rt), some (.ref G), some (.ref M), some (.ref N), some (.int i), some (.int c)] H' (thenS K (endQ Q)) := by
      intro c hc
      (repeat' (first | walk_at "s" | refine stepS rfl ?_))
      refine write_ith s (f.get _ _ hG2 oG) (f.get _ _ hN oN) (hpl2.fr f hok (fun _ _ _ h => h)) hf hlt hrl hs hk hrb (om42 hpn) hp hpg hpb hc fun H3 f2 s2 => ?_
      refine ⟨trivial, ?_⟩
      (repeat' (first | walk_at "s" | refine stepS rfl ?_))
      exact hK _ _ ⟨i + 1, _, _, hlt, rfl, rfl, f.then f2, s2⟩
    (repeat' (first | walk_at "s" | refine stepS rfl ?_))
    refine x_len hM3 hMl ?_
    (repeat' (first | walk_at "s" | refine stepS rfl ?_))
    rw [bytL_length]
    refine iteH_dec (fun h1 => ?_) (fun h1 => ?_)
    · have hil : i < ms.length := by exact om67 h1
      obtain ⟨c, t, e, hc⟩ := hrm i ms[i] (List.getElem?_eq_getElem hil)
      have hcl := hmb ms[i] (List.getElem_mem hil)
      rw [e] at hcl
      simp [four] at hcl
      (repeat' (first | walk_at "s" | refine stepS rfl ?_))
      refine x_idx hM3 hMl (v := .byt (four c ++ t)) (by rw [bytL, List.getElem?_map, List.getElem?_eq_getElem hil, e]; rfl) ?_
      refine F_child_of (hrb c (List.mem_of_getElem? hc)) (om68 hcl) ?_
      (repeat' walk_at "s")
      exact wr c hc
    · have hie : i = ms.length := by exact om69 hml hlt h1
      (repeat' walk_at "s")
      exact wr rt (by rw [hie]; exact hrt)
  · rintro loc H3 ⟨i, x, y, hi, e1, rfl, f, s⟩
    cases rng_nil hi e1
    rw [Nat.sub_self, List.replicate_zero, List.append_nil, List.take_of_length_le (Nat.le_of_eq hll)] at s
    have hM3 := f.get _ _ hM2 oM
    have hN3 := f.get _ _ hN oN
    (repeat' (first | walk_at "s" | refine stepS rfl ?_))
    refine x_len hM3 hMl ?_
    (repeat' (first | walk_at "s" | refine stepS rfl ?_))
    rw [bytL_length, Int.toNat_natCast]
    refine ⟨by exact om70 hml hpn, ?_⟩
    rw [show ms.length = (ms.map (·.drop 4)).length by simp]
    refine ret_above (pg := pg) (ms := ms.map (·.drop 4)) (fun i b H4 Q' hib f3 k => ?_) fun H4 f3 => ?_
    · have hil : i < ms.length := by have := (List.getElem?_eq_some_iff.mp hib).1; simpa using this
      obtain ⟨c, t, e, hc⟩ := hrm i ms[i] (List.getElem?_eq_getElem hil)
      have hcl := hmb ms[i] (List.getElem_mem hil)
      rw [e] at hcl
      simp [four] at hcl
      have hbt : b = t := by
        rw [List.getElem?_map, List.getElem?_eq_getElem hil, e] at hib
        simp [four] at hib
        exact hib.symm
      subst hbt
      simp only [capsOf, List.map_cons, List.map_nil, List.getElem?_cons_zero, List.getElem?_cons_succ, Option.getD_some]
      (repeat' (first | walk_at "s" | refine stepS rfl ?_))
      refine x_idx (f3.get _ _ hM3 (by simp)) hMl (v := .byt (four c ++ b)) (by rw [bytL, List.getElem?_map, List.getElem?_eq_getElem hil, e]; rfl) ?_
      refine x_idx (f3.get _ _ hN3 (by simp)) (rng_len (om44 hpn)) (rng_get (om71 hml hil)) ?_
      exact F_with_child (om72 hml hpn hpg hil) (om68 hcl) fun z => k _
    · have f4 := Fr.app [] H4 [.list (bytL (above (pg.length + 1) (ms.map (·.drop 4))))]
      obtain ⟨j, hj⟩ : ∃ j, pages.length = j + 1 := ⟨pages.length - 1, by exact om73 hml⟩
      refine x_last (v := .int (pg.length + pages.length : Nat)) (vs := (List.range j).map fun (i : Nat) => .int (pg.length + 1 + i : Nat)) ?_ (rng_len (om48 hpn hj)) ?_
      · rw [(f3.then f4).get _ _ hN3 (by simp), hj, List.range_succ, List.map_append, List.map_cons, List.map_nil, show pg.length + 1 + j = pg.length + (j + 1) by exact om23]
      refine ⟨⟨lt_lit rfl, List.cons_ne_nil _ _⟩, q _ _ _ (f1.nil.then (f2.then (f.then ((f3.then (f4.then (Fr.app ..))).nil)))) (s.fr0 (f3.then (f4.then (Fr.app ..)))) get_len (get_app get_len)⟩
end
theorem set_mid {α : Type} {A C : List α} {z x : α} : (A ++ z :: C).set A.length x = A ++ x :: C := by
  rw [List.set_append_right _ _ (Nat.le_refl _)]; simp
noncomputable def chPart (room : Nat) (o : B) (i : Nat) : B := (o.drop (i * room)).take room
noncomputable def chP (room base : Nat) (o : B) (i : Nat) : B := four (if (i + 1) * room < o.length then (base + i + 2 : Nat) else 0) ++ chPart room o i ++ zeros (room - (chPart room o i).length)
noncomputable def chN (room L : Nat) : Nat := (L + room - 1) / room
theorem chN_lt {room L i : Nat} (h : 0 < room) : i < chN room L ↔ i * room < L := by
  unfold chN
  rw [Nat.lt_div_iff_mul_lt h]
  exact om74 h
theorem upto_chN {room L : Nat} (h : 0 < room) (hL : 0 < L) : upto 0 L room = (List.range (chN room L)).map fun (i : Nat) => AV.int (i * room : Nat) := by
  unfold upto
  rw [if_pos (om75 hL)]
  have e : (((L : Int) - 0 - 1) / room + 1).toNat = chN room L := by
    unfold chN
    have h1 : (L : Int) - 0 - 1 = ((L - 1 : Nat) : Int) := by exact om76 hL
    rw [h1, ← Int.natCast_ediv, show L + room - 1 = L - 1 + room by exact om77 h1, Nat.add_div_right _ h]
    generalize (L - 1) / room = t
    exact om78
  rw [e]
  congr 1; funext i
  simp
theorem chP_length {room base i size : Nat} {o : B} (h : size = room + 4) : (chP room base o i).length = size := by
  unfold chP
  have : (chPart room o i).length ≤ room := by unfold chPart; rw [List.length_take]; exact om79
  simp [four, zeros]
  exact om80 h this
section
variable {H H' : AH} {Q : PQ} {n : Nat} {m : List Nat} {st d P S : Nat} {size : Nat} {pg : List B}
theorem F_append_chain {o : B} {room : Nat} (h : Sto H st d P S size pg) (hs : size ≤ 1000) (hrm : size = room + 4) (hr0 : 0 < room) (hpg : pg.length < 5000) (ho : o ≠ []) (hol : o.length < 5000)
    (q : ∀ H', Fr [P] H H' → Sto H' st d P S size (pg ++ (List.range (chN room o.length)).map (chP room pg.length o)) → Q (.int (pg.length + 1 : Nat)) H') : Gam (n + 4) 224 [.ref st, .byt o] H Q := by
  have hol' : o.length < 100000 := by exact om81 hol
  have hoz : 0 < o.length := List.length_pos_iff.mpr ho
  refine gam_go 19 [some (.ref st), some (.byt o), none, none, none, none, none, none] rfl rfl rfl ?_
  (repeat' (first | walk_at "s" | refine stepS rfl ?_))
  refine h.r_size ?_
  (repeat' (first | walk_at "s" | refine stepS rfl ?_))
  have er : (size : Int) - 4 = (room : Int) := by exact om82 hrm
  rw [er]
  refine ⟨_, _, _, _, h.inst, h.dict, rfl, ?_⟩
  refine F_extend h hs (om83 hpg) ?_
  have h1 := h.put (pg' := pg ++ [List.replicate size 0])
  have f1 : Fr [P] H (H.set P (.list (bytL (pg ++ [List.replicate size 0])))) := Fr.put (by simp)
  (repeat' (first | walk_at "s" | refine stepS rfl ?_))
  refine ⟨hol', ?_⟩
  (repeat' (first | walk_at "s" | refine stepS rfl ?_))
  refine ⟨⟨by decide, by decide, by exact om55, by exact om84 hol, by exact om75 hr0, by exact om85 hs hrm⟩, ?_⟩
  rw [upto_chN hr0 hoz]
  have hcn : chN room o.length ≤ o.length := by
    rcases Nat.lt_or_ge o.length (chN room o.length) with g | g
    · rw [chN_lt hr0] at g
      have := Nat.le_mul_of_pos_right o.length hr0
      exact (om86 g this).elim
    · exact g
  refine turns_inv (fun rest loc H' => ∃ i x y z pgN, i ≤ chN room o.length ∧ rest = ((List.range (chN room o.length)).drop i).map (fun (i : Nat) => AV.int (i * room : Nat)) ∧
    loc = [some (.ref st), some (.byt o), some (.int room), some (.int (pg.length + 1 : Nat)), some (.int pgN), x, y, z] ∧ (i < chN room o.length → pgN = (pg.length + 1 + i : Nat)) ∧ Fr [P] H H' ∧
    Sto H' st d P S size (pg ++ (List.range i).map (chP room pg.length o) ++ if i < chN room o.length then [zeros size] else [])) ?_ ?_ ?_ _ _ _ ?_
  · intros; trivial
  · rintro v rest loc H' K ⟨i, x, y, z, pgN, hi, e1, rfl, hpn, f, s⟩ hK
    obtain ⟨hlt, rfl, rfl⟩ := rng_cons e1
    rw [if_pos hlt] at s
    have hpn := hpn hlt
    subst hpn
    have hil := (chN_lt hr0).mp hlt
    have hnl : chN room o.length < 5000 := by exact om87 hol hcn
    have e2 : ((i * room : Nat) : Int) + (room : Int) = (((i + 1) * room : Nat) : Int) := by rw [Nat.add_mul, Nat.one_mul]; exact om88
    have hpart : (chPart room o i).length ≤ room := by unfold chPart; rw [List.length_take]; exact om79
    have hpart5 : (chPart room o i).length < 100000 := by exact om89 hs hrm hpart
    have hnx : 0 ≤ (if (i + 1) * room < o.length then ((pg.length + i + 2 : Nat) : Int) else 0) ∧ (if (i + 1) * room < o.length then ((pg.length + i + 2 : Nat) : Int) else 0) < 65536 := by split <;> omega
    -- the write of the page, once the one that follows is known
    have wr : ∀ (H2 : AH) (C : List B), Fr [P] H' H2 → Sto H2 st d P S size (pg ++ (List.range i).map (chP room pg.length o) ++ zeros size :: C) → (C = if i + 1 < chN room o.length then [zeros size] else []) →
        WSs (Gam (n + 3)) ir_append_chain_3d_3
          [some (.ref st), some (.byt o), some (.int room), some (.int (pg.length + 1 : Nat)), some (.int (pg.length + 1 + i : Nat)), some (.int (i * room : Nat)), some (.byt (chPart room o i)), some (.int (if (i + 1) * room < o.length then (pg.length + i + 2 : Nat) else 0))] H2 (thenS K (endQ Q)) := by
      intro H2 C f2 s2 hC
      (repeat' (first | walk_at "s" | refine stepS rfl ?_))
      refine ⟨_, _, _, _, s2.inst, s2.dict, rfl, ?_⟩
      refine F_four_octets hnx fun w => ?_
      (repeat' (first | walk_at "s" | refine stepS rfl ?_))
      refine ⟨by simp [four]; exact om90 hs hrm hpart, hpart5, ?_⟩
      (repeat' (first | walk_at "s" | refine stepS rfl ?_))
      refine ⟨by exact om91 hs hrm hpart, ?_⟩
      rw [show ((room : Int) - (chPart room o i).length).toNat = room - (chPart room o i).length by exact om92]
      refine ⟨by simp [four]; exact om93 hs hrm hpart, ?_⟩
      rw [show ((pg.length + 1 + i : Nat) : Int) = ((pg.length + i : Nat) : Int) + 1 by exact om31]
      have hCl : C.length ≤ 1 := by rw [hC]; split <;> simp
      have hcl := chP_length (base := pg.length) (i := i) (o := o) hrm
      refine F_write_page (b := chP room pg.length o i) s2.app (by simp; exact om94 hpg hlt hnl hCl) (by simp) (om95 hcl) (by rw [hcl]; exact om30 hs) ?_
      have hA : (pg ++ (List.range i).map (chP room pg.length o)).length = pg.length + i := by simp
      rw [← hA, set_mid]
      refine ⟨trivial, ?_⟩
      (repeat' (first | walk_at "s" | refine stepS rfl ?_))
      refine hK _ _ ⟨i + 1, _, _, _, _, hlt, rfl, rfl, fun h => ?_, f.then (f2.then ((Fr.app ..).then (Fr.put (by simp)))), ?_⟩
      · rw [if_pos ((chN_lt hr0).mp h)]; exact om96 hA
      · have := (s2.app (K := [w])).put (pg' := pg ++ (List.range i).map (chP room pg.length o) ++ chP room pg.length o i :: C)
        rw [List.range_succ, List.map_append, ← hC]
        simp only [List.map_cons, List.map_nil, List.append_assoc, List.cons_append, List.nil_append] at this ⊢
        exact this
    (repeat' (first | walk_at "s" | refine stepS rfl ?_))
    refine ⟨hol', ?_⟩
    rw [e2, cut_mid, show (i + 1) * room - i * room = room by rw [Nat.add_mul, Nat.one_mul]; exact om97, show (o.drop (i * room)).take room = chPart room o i from rfl]
    (repeat' (first | walk_at "s" | refine stepS rfl ?_))
    refine ⟨hol', ?_⟩
    rw [e2]
    refine iteH_dec (fun h1 => ?_) (fun h1 => ?_)
    · have h1' : (i + 1) * room < o.length := by exact om67 h1
      (repeat' (first | walk_at "s" | refine stepS rfl ?_))
      refine ⟨_, _, _, _, s.inst, s.dict, rfl, ?_⟩
      refine F_extend s hs (by simp; exact om98 hpg hlt hnl) ?_
      have := wr _ [zeros size] (Fr.put (i := P) (by simp)) (s.put (pg' := pg ++ (List.range i).map (chP room pg.length o) ++ [zeros size] ++ [List.replicate size 0]) |> fun z => by simpa [zeros] using z) (by rw [if_pos ((chN_lt hr0).mpr h1')])
      rw [if_pos h1'] at this
      rw [show ((pg ++ (List.range i).map (chP room pg.length o) ++ [zeros size]).length + 1 : Nat) = pg.length + i + 2 by simp; exact om99]
      (repeat' (first | walk_at "s" | refine stepS rfl ?_))
      simp only [List.append_assoc, List.cons_append, List.nil_append] at this ⊢
      exact this
    · have h1' : ¬ (i + 1) * room < o.length := by exact om100 h1
      have := wr _ [] (Fr.refl ..) (by simpa using s) (by rw [if_neg (fun h => h1' ((chN_lt hr0).mp h))])
      rw [if_neg h1'] at this
      (repeat' (first | walk_at "s" | refine stepS rfl ?_))
      exact this
  · rintro loc H' ⟨i, x, y, z, pgN, hi, e1, rfl, hpn, f, s⟩
    cases rng_nil hi e1
    rw [if_neg (Nat.lt_irrefl _), List.append_nil] at s
    (repeat' (first | walk_at "s" | refine stepS rfl ?_))
    exact q _ f s
  · refine ⟨0, none, none, none, _, Nat.zero_le _, by simp, rfl, fun _ => rfl, f1, ?_⟩
    rw [if_pos ((chN_lt hr0).mpr (om101 hoz))]
    simpa [zeros] using h1
end
noncomputable def Src (H : AH) (s : Nat) : Prop := ∃ a b : Int, H[s]? = some (.list [.int a, .int b]) ∧ 0 ≤ a ∧ 0 ≤ b ∧ b < 2147483647
theorem Src.fr {H H' : AH} {s : Nat} {m : List Nat} (h : Src H s) (f : Fr m H H') (hs : s ∉ m) : Src H' s := by
  obtain ⟨a, b, e, r⟩ := h
  exact ⟨a, b, f.get _ _ e hs, r⟩
theorem Src.app {H K : AH} {s : Nat} (h : Src H s) : Src (H ++ K) s := h.fr (Fr.app [] H K) (by simp)
theorem Src.lt {H : AH} {s : Nat} (h : Src H s) : s < H.length := by obtain ⟨a, b, e, _⟩ := h; exact get_lt e
section
variable {H H' : AH} {Q : PQ} {n : Nat} {m : List Nat}
theorem F_pool {r : Nat} {ns : List Int} {ob : Obj} (hr : H[r]? = some (.frz ns ob)) (hl : ns.length < 100000) (q : ∀ x, Src (H ++ [x]) H.length → Q (.ref H.length) (H ++ [x])) : Gam (n + 1) 323 [.ref r, .int 0] H Q := by
  refine gam_go 30 [some (.ref r), some (.int 0), none, none, none] rfl rfl rfl ?_
  -- after the cell is known
  have rest : ∀ c : Int, WSs (Gam n) ir__law_pool_2 [some (.ref r), some (.int 0), some (.int c), none, none] H (endQ Q) := by
    intro c
    (repeat' (first | walk_at "s" | refine stepS rfl ?_))
    generalize hbig : (if c < -1 - c then -1 - c else c) = big
    have hb0 : 0 ≤ big := by rw [← hbig]; split <;> omega
    refine ⟨by decide, ?_⟩
    (repeat' (first | walk_at "s" | refine stepS rfl ?_))
    refine ⟨.inr (by decide), ?_⟩
    (repeat' (first | walk_at "s" | refine stepS rfl ?_))
    refine ⟨.inr (by decide), .inr (by decide), ?_⟩
    (repeat' (first | walk_at "s" | refine stepS rfl ?_))
    refine ⟨.inr (by decide), by decide, ?_⟩
    (repeat' (first | walk_at "s" | refine stepS rfl ?_))
    refine ⟨⟨by decide, by decide, by decide⟩, ?_⟩
    (repeat' (first | walk_at "s" | refine stepS rfl ?_))
    refine ⟨.inr (by split <;> decide), lt_lit rfl, q _ ⟨_, _, get_len, ?_, Int.emod_nonneg _ (by decide), Int.emod_lt_of_pos _ (by decide)⟩⟩
    split <;> omega
  (repeat' (first | walk_at "s" | refine stepS rfl ?_))
  refine x_lenF hr hl ?_
  (repeat' (first | walk_at "s" | refine stepS rfl ?_))
  refine iteH_dec (fun h => ?_) (fun h => ?_)
  · cases ns with
    | nil => simp at h
    | cons c ns =>
      (repeat' (first | walk_at "s" | refine stepS rfl ?_))
      refine x_frz hr hl (by decide) (m := c) rfl ?_
      (repeat' walk_at "s")
      exact rest c
  · (repeat' walk_at "s")
    exact rest 0
theorem F_take {s : Nat} {top : Int} (h : Src H s) (ht : 0 < top ∧ top < 1073741824) (q : ∀ d H', 0 ≤ d → d < top → Fr [s] H H' → H'.length = H.length → Src H' s → Q (.int d) H') : Gam (n + 1) 330 [.ref s, .int top] H Q := by
  obtain ⟨a, b, e, ha, hb, hb'⟩ := h
  refine gam_go 31 [some (.ref s), some (.int top), none] rfl rfl rfl ?_
  (repeat' (first | walk_at "s" | refine stepS rfl ?_))
  refine x_idx (i := 0) e (lt_lit rfl) (v := .int a) rfl ?_
  (repeat' (first | walk_at "s" | refine stepS rfl ?_))
  refine iteH_dec (fun h => ?_) (fun h => ?_)
  · (repeat' (first | walk_at "s" | refine stepS rfl ?_))
    refine x_idx (i := 0) e (lt_lit rfl) (v := .int a) rfl ?_
    (repeat' (first | walk_at "s" | refine stepS rfl ?_))
    refine ⟨ht.1, ?_⟩
    (repeat' (first | walk_at "s" | refine stepS rfl ?_))
    refine x_idx (i := 0) e (lt_lit rfl) (v := .int a) rfl ?_
    (repeat' (first | walk_at "s" | refine stepS rfl ?_))
    refine ⟨ht, x_set (i := 0) e (lt_lit rfl) (lt_lit rfl) ?_⟩
    (repeat' (first | walk_at "s" | refine stepS rfl ?_))
    exact q _ _ (Int.emod_nonneg _ (Int.ne_of_gt ht.1)) (Int.emod_lt_of_pos _ ht.1) (Fr.put (by simp)) (by simp) ⟨a / top, b, get_set_eq e, Int.ediv_nonneg ha (Int.le_of_lt ht.1), hb, hb'⟩
  · (repeat' (first | walk_at "s" | refine stepS rfl ?_))
    refine x_idx (i := 1) e (lt_lit rfl) (v := .int b) rfl ?_
    (repeat' (first | walk_at "s" | refine stepS rfl ?_))
    refine ⟨.inr (by decide), ?_⟩
    (repeat' (first | walk_at "s" | refine stepS rfl ?_))
    refine ⟨by decide, ?_⟩
    (repeat' (first | walk_at "s" | refine stepS rfl ?_))
    refine x_set (i := 1) e (lt_lit rfl) (lt_lit rfl) ?_
    have hn0 := Int.emod_nonneg (b * 39373 + 7) (b := 2147483647) (by decide)
    have hn1 := Int.emod_lt_of_pos (b * 39373 + 7) (b := 2147483647) (by decide)
    generalize (b * 39373 + 7) % 2147483647 = b1 at *
    have e1 : (H.set s (.list ([AV.int a, .int b].set 1 (.int b1))))[s]? = some (.list [.int a, .int b1]) := get_set_eq e
    (repeat' (first | walk_at "s" | refine stepS rfl ?_))
    refine x_idx (i := 1) e1 (lt_lit rfl) (v := .int b1) rfl ?_
    refine x_idx (i := 1) e1 (lt_lit rfl) (v := .int b1) rfl ?_
    (repeat' (first | walk_at "s" | refine stepS rfl ?_))
    refine ⟨.inl (by omega), ?_⟩
    (repeat' (first | walk_at "s" | refine stepS rfl ?_))
    refine ⟨by decide, ?_⟩
    (repeat' (first | walk_at "s" | refine stepS rfl ?_))
    refine ⟨⟨by decide, by decide⟩, ht.1, ?_⟩
    (repeat' (first | walk_at "s" | refine stepS rfl ?_))
    exact q _ _ (Int.emod_nonneg _ (Int.ne_of_gt ht.1)) (Int.emod_lt_of_pos _ ht.1) (Fr.put (by simp)) (by simp) ⟨a, b1, e1, ha, hn0, hn1⟩
theorem F_one {s t : Nat} {vs : List AV} (h : Src H s) (ht : H[t]? = some (.list vs)) (hst : s ≠ t) (h0 : 0 < vs.length) (h1 : vs.length < 1000) (q : ∀ (d : Nat) v H', vs[d]? = some v → Fr [s] H H' → H'.length = H.length → Src H' s → Q v H') : Gam (n + 2) 337 [.ref s, .ref t] H Q := by
  refine gam_go 32 [some (.ref s), some (.ref t)] rfl rfl rfl ?_
  have hl : vs.length < 100000 := Nat.lt_trans h1 (by decide)
  (repeat' (first | walk_at "s" | refine stepS rfl ?_))
  refine x_len ht hl ?_
  refine F_take h (om197 h0 h1) fun d H' hd0 hd1 f fl hs => ?_
  obtain ⟨d, rfl⟩ := Int.eq_ofNat_of_zero_le hd0
  have hd : d < vs.length := Int.ofNat_lt.mp hd1
  refine x_idx (f.get _ _ ht (by simpa using fun e => hst e.symm)) hl (List.getElem?_eq_getElem hd) ?_
  (repeat' (first | walk_at "s" | refine stepS rfl ?_))
  exact q d _ H' (List.getElem?_eq_getElem hd) f fl hs
theorem F_law_four {c : Int} (hc : 0 ≤ c ∧ c < 65536) (q : ∀ x, Q (.byt (four c)) (H ++ [x])) : Gam (n + 1) 344 [.int c] H Q := by
  refine gam_go 33 [some (.int c)] rfl rfl rfl ?_
  (repeat' (first | walk_at "s" | refine stepS rfl ?_))
  refine ⟨⟨by decide, by decide⟩, by decide, lt_lit rfl, ?_⟩
  exact x_bytes get_len (ns := [0, 0, c / 256, c % 256]) rfl (by simp; exact om198 hc) (lt_lit rfl) (q _)
theorem F_law_room {k size : Int} (q : Q (.int (size - if k > 5 then 8 else 12)) H) : Gam (n + 1) 370 [.int k, .int size] H Q := by
  refine gam_go 37 [some (.int k), some (.int size)] rfl rfl rfl ?_
  (repeat' (first | walk_at "s" | refine stepS rfl ?_))
  refine iteH_dec (fun h => ?_) (fun h => ?_)
  · rw [if_pos h] at q; exact q
  · rw [if_neg h] at q; exact q
theorem F_law_used {r : Nat} {bs : List B} (hr : H[r]? = some (.list (bytL bs))) (hl : bs.length < 100000) (hb : ∀ b ∈ bs, b.length < 100000) (q : ∀ x, Q (.int (costs bs : Nat)) (H ++ [x])) : Gam (n + 1) 356 [.ref r] H Q := by
  refine gam_go 35 [some (.ref r)] rfl rfl rfl ?_
  (repeat' (first | walk_at "s" | refine stepS rfl ?_))
  refine ⟨bytL bs, hr, bL hl, ?_⟩
  refine comp_pure (f := fun v => match v with | .byt b => .int (cost1 b) | v => v) (fun v hv Q q => ?_) hr ?_
  · obtain ⟨b, hb', rfl⟩ := List.mem_map.mp hv
    (repeat' (first | walk_at "s" | refine stepS rfl ?_))
    refine ⟨hb b hb', ?_⟩
    have e : (2 : Int) + (if (4 : Int) < b.length then (b.length : Int) else 4) = ((cost1 b : Nat) : Int) := by
      have := max_int 4 b.length
      unfold cost1 plen; split <;> omega
    rw [e]; exact q
  · refine ⟨_, bs.map fun b => (cost1 b : Int), get_len, ?_, ?_⟩
    · rw [← ints_comp]; simp [bytL, Function.comp_def]
    · rw [costs_int]; exact q _
end
section
variable {H H' : AH} {Q : PQ} {n : Nat} {m : List Nat}
theorem F_law_page {r size : Nat} {k rt : Int} {raws : List B} (hr : H[r]? = some (.list (bytL raws))) (hl : raws.length < 256) (hb : ∀ b ∈ raws, b.length < 1000) (hc : (costs raws : Int) ≤ size - headK k) (hs : size ≤ 1000) (hk : 0 ≤ k ∧ k < 256) (hrt : 0 ≤ rt ∧ rt < 65536) (hkk : leafK k = !decide (k < 10))
    (q : ∀ H', Fr [] H H' → Q (.byt (pageB size k raws rt)) H') : Gam (n + 2) 351 [.int size, .int k, .ref r, .int rt] H Q := by
  have hkk' : headK k = 8 ∨ headK k = 12 := by unfold headK; cases leafK k <;> simp
  have hce := costs_eq raws
  have hrl : (bytL raws).length < 100000 := bL (om211 hl)
  have hpl9 : plens raws ≤ 1000 := by exact om129 hc hs hkk' hce
  refine gam_go 34 [some (.int size), some (.int k), some (.ref r), some (.int rt), none, none, none, none, none, none] rfl rfl rfl ?_
  (repeat' (first | walk_at "s" | refine stepS rfl ?_))
  refine tup_go rfl (List.cons_ne_nil _ _) rfl ?_
  (repeat' (first | walk_at "s" | refine stepS rfl ?_))
  refine ⟨_, get_app hr, hrl, ?_⟩
  refine turns_inv (fun rest loc H' => ∃ done todo x y, raws = done ++ todo ∧ rest = bytL todo ∧ loc = [some (.int size), some (.int k), some (.ref r), some (.int rt), some (.byt (ptrs size done).flatten), some (.byt (done.map pad).reverse.flatten), some (.int (size - plens done)), x, y, none] ∧ Fr [] H H') ?_ ?_ ?_ _ _ _ ⟨[], raws, none, none, rfl, rfl, by simp [plens_nil, ptrs, offs], Fr.app ..⟩
  · rintro r' loc H' ⟨done, todo, x, y, e1, rfl, rfl, f⟩
    exact f.get _ _ hr (by simp)
  · rintro v r' loc H' K ⟨done, todo, x, y, e1, e2, rfl, f⟩ hK
    obtain _ | ⟨b, todo⟩ := todo
    · cases e2
    cases e2
    have hbl : b.length < 1000 := hb b (by rw [e1]; simp)
    have hpl := pad_length b
    have hpls : plens raws = plens done + plen b + plens todo := by rw [e1, plens_app, plens_cons]; exact om133
    have hlen : done.length < 256 := by have := congrArg List.length e1; simp at this; exact om212 hl this
    have hpf := pads_flat done
    have hpf2 := ptrs_flat size done
    have e3 : (size : Int) - ((plens (done ++ [b]) : Nat) : Int) = size - plens done - (pad b).length := by rw [plens_app, plens_cons, plens_nil, hpl]; exact om135
    have e4 : 0 ≤ (size : Int) - plens done - (pad b).length ∧ (size : Int) - plens done - (pad b).length < 65536 := by rw [hpl]; exact om136 hc hs hkk' hce hpls
    (repeat' (first | walk_at "s" | refine stepS rfl ?_))
    refine ⟨by exact om44 hbl, ?_⟩
    rw [max_pad]
    (repeat' (first | walk_at "s" | refine stepS rfl ?_))
    refine ⟨⟨by exact om137, by exact om138⟩, by rw [List.length_replicate]; exact om139 hbl, ?_⟩
    rw [Int.toNat_natCast, show b ++ List.replicate (4 - b.length) 0 = pad b from rfl]
    (repeat' (first | walk_at "s" | refine stepS rfl ?_))
    refine ⟨by exact om213 hpl9 hpl hpls, ?_⟩
    (repeat' (first | walk_at "s" | refine stepS rfl ?_))
    refine ⟨by exact om214 hpl9 hpl hpls hpf, tup_go rfl (List.cons_ne_nil _ _) rfl ?_⟩
    (repeat' (first | walk_at "s" | refine stepS rfl ?_))
    refine ⟨⟨by decide, by decide⟩, by decide, lt_lit rfl, ?_⟩
    refine x_bytes get_len (ns := [(size - plens done - (pad b).length) / 256, (size - plens done - (pad b).length) % 256]) rfl (by simp; exact om215 e4) (lt_lit rfl) ?_
    (repeat' (first | walk_at "s" | refine stepS rfl ?_))
    refine ⟨by rw [hpf2]; simp; exact om216 hlen, ?_⟩
    refine hK _ _ ⟨done ++ [b], todo, some (.byt b), some (.byt (pad b)), by simp [e1], rfl, ?_, f.then ((Fr.app ..).then (Fr.app ..))⟩
    rw [ptrs_app, e3]
    simp [two, ub]
  · rintro loc H3 ⟨done, todo, x, y, e1, e2, rfl, f⟩
    have : todo = [] := by cases todo with | nil => rfl | cons _ _ => cases e2
    subst this
    rw [List.append_nil] at e1
    subst e1
    (repeat' (first | walk_at "s" | refine stepS rfl ?_))
    refine x_len (f.get _ _ hr (by simp)) hrl ?_
    rw [bytL_length]
    (repeat' (first | walk_at "s" | refine stepS rfl ?_))
    refine ⟨⟨by decide, by decide⟩, by decide, lt_lit rfl, ?_⟩
    refine x_bytes get_len (ns := [k, 0, 0, 0, raws.length, (size - plens raws) / 256, (size - plens raws) % 256, 0]) rfl (by simp; exact om217 hl hc hs hk hkk' hce) (lt_lit rfl) ?_
    have hfl := frontB_length size k raws rt
    have hpf := pads_flat raws
    have hpf2 := ptrs_flat size raws
    -- the end, once the head is known
    have fin : ∀ (hd : B) (H4 : AH), Fr [] H H4 → hd = frontB size k raws rt → WSs (Gam (n + 1)) ir__law_page_3 [some (.int size), some (.int k), some (.ref r), some (.int rt), some (.byt (ptrs size raws).flatten), some (.byt (raws.map pad).reverse.flatten), some (.int (size - plens raws)), x, y, some (.byt hd)] H4 (endQ Q) := by
      intro hd H4 f4 e
      subst e
      (repeat' (first | walk_at "s" | refine stepS rfl ?_))
      refine ⟨by exact om218 hc hs hce hfl, ?_⟩
      (repeat' (first | walk_at "s" | refine stepS rfl ?_))
      refine ⟨⟨by exact om145 hc hce hfl, by exact om219 hs⟩, by rw [List.length_replicate]; exact om220 hc hs hce hfl, ?_⟩
      (repeat' (first | walk_at "s" | refine stepS rfl ?_))
      refine ⟨?_, q _ f4⟩
      rw [List.length_append, List.length_replicate, hpf]; exact om148 hc hs hce hfl
    have two0 : two (raws.length : Int) = [0, ub raws.length] := by
      unfold two
      rw [Int.ediv_eq_zero_of_lt om55 (om221 hl), Int.emod_eq_of_lt om55 (om221 hl)]
      rfl
    (repeat' (first | walk_at "s" | refine stepS rfl ?_))
    refine iteH_dec (fun h => ?_) (fun h => ?_)
    · (repeat' (first | walk_at "s" | refine stepS rfl ?_))
      refine F_law_four hrt fun z => ?_
      have hlk : leafK k = false := by rw [hkk, decide_eq_true h]; rfl
      (repeat' (first | walk_at "s" | refine stepS rfl ?_))
      refine ⟨lt_lit rfl, ?_⟩
      (repeat' (first | walk_at "s" | refine stepS rfl ?_))
      refine ⟨by rw [hpf2]; simp [four]; exact om222 hl, ?_⟩
      (repeat' walk_at "s")
      refine fin _ _ (f.then ((Fr.app ..).then (Fr.app ..))) ?_
      unfold frontB headB
      rw [hlk, two0]
      simp [two, ub, four]
    · have hlk : leafK k = true := by rw [hkk, decide_eq_false h]; rfl
      (repeat' (first | walk_at "s" | refine stepS rfl ?_))
      refine ⟨lt_lit rfl, ?_⟩
      (repeat' (first | walk_at "s" | refine stepS rfl ?_))
      refine ⟨by rw [hpf2]; simp; exact om223 hl, ?_⟩
      (repeat' walk_at "s")
      refine fin _ _ (f.then (Fr.app ..)) ?_
      unfold frontB headB
      rw [hlk, two0]
      simp [two, ub]
end
noncomputable def dn (room : Int) (left : List B) : Nat → Nat
  | 0 => 0
  | 1 => 1
  | m + 2 => if (costs (left.take (m + 2)) : Int) > room then dn room left (m + 1) else m + 2
noncomputable def pm (room : Int) (left : List B) : Nat := dn room left left.length
theorem dn_le (room : Int) (left : List B) : ∀ m, dn room left m ≤ m
  | 0 => Nat.le_refl _
  | 1 => Nat.le_refl _
  | m + 2 => by
    unfold dn; split
    · have := dn_le room left (m + 1); exact om224 this
    · exact om225
theorem dn_pos (room : Int) (left : List B) : ∀ m, 0 < m → 0 < dn room left m
  | 0, h => h
  | 1, _ => Nat.one_pos
  | m + 2, _ => by
    unfold dn; split
    · exact dn_pos room left (m + 1) (Nat.succ_pos _)
    · exact om226
theorem dn_fits (room : Int) (left : List B) : ∀ m, 2 ≤ dn room left m → (costs (left.take (dn room left m)) : Int) ≤ room
  | 0, h => by simp [dn] at h
  | 1, h => by simp [dn] at h
  | m + 2, h => by
    unfold dn at h ⊢
    split
    · rename_i g; rw [if_pos g] at h; exact dn_fits room left (m + 1) h
    · exact om227 ‹_›
theorem dn_full (room : Int) (left : List B) : ∀ m, dn room left m < m → (costs (left.take (dn room left m + 1)) : Int) > room
  | 0, h => by simp at h
  | 1, h => by simp [dn] at h
  | m + 2, h => by
    unfold dn at h ⊢
    split
    · rename_i g
      rw [if_pos g] at h
      rcases Nat.lt_or_ge (dn room left (m + 1)) (m + 1) with k | k
      · exact dn_full room left (m + 1) k
      · have := dn_le room left (m + 1)
        rw [show dn room left (m + 1) = m + 1 by exact om228 h k]; exact g
    · rename_i g; rw [if_neg g] at h; exact (om229 h).elim
theorem dn_stop {room : Int} {left : List B} : ∀ {m : Nat}, (m ≤ 1 ∨ (costs (left.take m) : Int) ≤ room) → dn room left m = m
  | 0, _ => rfl
  | 1, _ => rfl
  | m + 2, h => by
    unfold dn; rw [if_neg (om230 h)]
theorem dn_go {room : Int} {left : List B} : ∀ {m : Nat}, 1 < m → (costs (left.take m) : Int) > room → dn room left m = dn room left (m - 1)
  | 0, h, _ => by exact (om231 h).elim
  | 1, h, _ => by exact (om232 h).elim
  | m + 2, _, g => by
    conv => lhs; unfold dn
    rw [if_pos g]; rfl
theorem costs_take_mono (l : List B) {i j : Nat} (h : i ≤ j) : costs (l.take i) ≤ costs (l.take j) := by
  have e : l.take i = (l.take j).take i := by rw [List.take_take, Nat.min_eq_left h]
  rw [e]
  conv => rhs; rw [← List.take_append_drop i (l.take j)]
  rw [costs_app]; exact om233
theorem costs_take_succ (l : List B) {i : Nat} (h : i < l.length) : costs (l.take (i + 1)) = costs (l.take i) + cost1 l[i] := by
  rw [List.take_succ_eq_append_getElem h, costs_app, costs_cons, costs_nil]; rfl
theorem packR_upto (room : Int) (ps : List (List B)) (left : List B) : ∀ j, j ≤ pm room left → packR room ps [] left = packR room ps (left.take j) (left.drop j)
  | 0, _ => by simp
  | j + 1, h => by
    have hl : pm room left ≤ left.length := dn_le ..
    have hj : j < left.length := by exact om234 h hl
    rw [packR_upto room ps left j (om235 h), List.drop_eq_getElem_cons hj, packR, if_neg, List.take_succ_eq_append_getElem hj]
    rintro ⟨h1, h2⟩
    have hj1 : 1 ≤ j := by
      rcases Nat.eq_zero_or_pos j with e | e
      · subst e; simp at h2
      · exact e
    have hf := dn_fits room left left.length (by show 2 ≤ pm room left; exact om236 h hj1)
    have hm := costs_take_mono left h
    rw [costs_take_succ left hj] at hm
    have : pm room left = dn room left left.length := rfl
    rw [← this] at hf
    exact (om237 h1 hf hm).elim
theorem packR_step (room : Int) (ps : List (List B)) (left : List B) : packR room ps [] left = if left.drop (pm room left) = [] then ps ++ [left.take (pm room left)] else packR room (ps ++ [left.take (pm room left)]) [] (left.drop (pm room left)) := by
  rw [packR_upto room ps left _ (Nat.le_refl _)]
  generalize hd : left.drop (pm room left) = d
  cases d with
  | nil => rfl
  | cons b r =>
    have hlt : pm room left < left.length := by
      rcases Nat.lt_or_ge (pm room left) left.length with g | g
      · exact g
      · rw [List.drop_eq_nil_of_le g] at hd; cases hd
    have hfull := dn_full room left left.length hlt
    have hpos := dn_pos room left left.length (om238 hlt)
    have e : dn room left left.length = pm room left := rfl
    rw [e] at hfull hpos
    rw [costs_take_succ left hlt] at hfull
    have hb : b = left[pm room left] := by rw [List.drop_eq_getElem_cons hlt] at hd; cases hd; rfl
    rw [if_neg (by simp)]
    conv => lhs; rw [packR]
    rw [if_pos ⟨by rw [hb]; exact om239 hfull, fun e => by
      have := congrArg List.length e
      rw [List.length_take, List.length_nil] at this
      exact (om240 hlt hpos this).elim⟩]
    conv => rhs; rw [packR]
    rw [if_neg (by simp)]; rfl
theorem packB_upto (room : Int) (ps : List (List B)) (ms left : List B) : ∀ j, j ≤ pm room left → packB room ps ms [] left = packB room ps ms (left.take j) (left.drop j)
  | 0, _ => by simp
  | j + 1, h => by
    have hl : pm room left ≤ left.length := dn_le ..
    have hj : j < left.length := by exact om234 h hl
    rw [packB_upto room ps ms left j (om235 h), List.drop_eq_getElem_cons hj, packB, if_neg, List.take_succ_eq_append_getElem hj]
    rintro ⟨h1, h2⟩
    have hj1 : 1 ≤ j := by
      rcases Nat.eq_zero_or_pos j with e | e
      · subst e; simp at h2
      · exact e
    have hf := dn_fits room left left.length (by show 2 ≤ pm room left; exact om236 h hj1)
    have hm := costs_take_mono left h
    rw [costs_take_succ left hj] at hm
    have : pm room left = dn room left left.length := rfl
    rw [← this] at hf
    exact (om237 h1 hf hm).elim
theorem packB_step (room : Int) (ps : List (List B)) (ms left : List B) : packB room ps ms [] left = match left.drop (pm room left) with
    | [] => fixB ps ms (left.take (pm room left))
    | b :: r => packB room (ps ++ [left.take (pm room left)]) (ms ++ [b]) [] r := by
  rw [packB_upto room ps ms left _ (Nat.le_refl _)]
  generalize hd : left.drop (pm room left) = d
  cases d with
  | nil => rfl
  | cons b r =>
    have hlt : pm room left < left.length := by
      rcases Nat.lt_or_ge (pm room left) left.length with g | g
      · exact g
      · rw [List.drop_eq_nil_of_le g] at hd; cases hd
    have hfull := dn_full room left left.length hlt
    have hpos := dn_pos room left left.length (om238 hlt)
    have e : dn room left left.length = pm room left := rfl
    rw [e] at hfull hpos
    rw [costs_take_succ left hlt] at hfull
    have hb : b = left[pm room left] := by rw [List.drop_eq_getElem_cons hlt] at hd; cases hd; rfl
    conv => lhs; rw [packB]
    rw [if_pos ⟨by rw [hb]; exact om239 hfull, fun e => by
      have := congrArg List.length e
      rw [List.length_take, List.length_nil] at this
      exact (om240 hlt hpos this).elim⟩]
noncomputable def stepF (hm : Bool) (room : Int) (ps : List (List B)) (ms left : List B) : List (List B) × List B := if hm then packB room ps ms [] left else (packR room ps [] left, ms)
theorem take_ne {room : Int} {left : List B} (h : left ≠ []) : left.take (pm room left) ≠ [] := fun e => by
  have h1 := dn_pos room left left.length (List.length_pos_iff.mpr h)
  have h2 := congrArg List.length e
  have h3 := List.length_pos_iff.mpr h
  have : pm room left = dn room left left.length := rfl
  rw [List.length_take, List.length_nil] at h2
  exact (om241 h1 h2 h3 this).elim
theorem stepF_end {hm : Bool} {room : Int} {ps : List (List B)} {ms left : List B} (hd : left.drop (pm room left) = []) (h : left ≠ [] ∨ ps = []) : stepF hm room ps ms left = (ps ++ [left.take (pm room left)], ms) := by
  unfold stepF
  cases hm with
  | false => rw [if_neg (by simp), packR_step, if_pos hd]
  | true =>
    rw [if_pos rfl, packB_step, hd]
    show fixB _ _ _ = _
    unfold fixB
    rw [if_neg]
    rintro ⟨h1, h2⟩
    rcases h with h | h
    · exact take_ne h h1
    · exact h2 h
theorem stepF_rows {room : Int} {ps : List (List B)} {ms left : List B} (hd : left.drop (pm room left) ≠ []) : stepF false room ps ms left = stepF false room (ps ++ [left.take (pm room left)]) ms (left.drop (pm room left)) := by
  unfold stepF
  rw [if_neg (by simp), if_neg (by simp), packR_step, if_neg hd]
theorem stepF_btw {room : Int} {ps : List (List B)} {ms left : List B} {b : B} {r : List B} (hd : left.drop (pm room left) = b :: r) : stepF true room ps ms left = stepF true room (ps ++ [left.take (pm room left)]) (ms ++ [b]) r := by
  unfold stepF
  rw [if_pos rfl, if_pos rfl, packB_step, hd]
theorem stepF_mend {room : Int} {ps : List (List B)} {p ms : List B} {x b : B} : stepF true room (ps ++ [p ++ [x]]) (ms ++ [b]) [] = (ps ++ [p] ++ [[b]], ms ++ [x]) := by
  unfold stepF
  rw [if_pos rfl]
  exact fixB_snoc ..
theorem bytL_take (l : List B) (k : Nat) : (bytL l).take k = bytL (l.take k) := by simp [bytL]
theorem bytL_drop (l : List B) (k : Nat) : (bytL l).drop k = bytL (l.drop k) := by simp [bytL]
theorem prim_bytL (l : List B) : ∀ v ∈ bytL l, IsPrim v := by
  intro v h; obtain ⟨b, _, rfl⟩ := List.mem_map.mp h; trivial
section
variable {H H' : AH} {Q : PQ} {n : Nat} {m : List Nat}
theorem F_law_filled {r : Nat} {room : Int} {hm : Bool} {raws : List B} (hr : H[r]? = some (.list (bytL raws))) (hl : raws.length < 1000) (hb : ∀ b ∈ raws, b.length < 1000)
    (q : ∀ H' G M T ds, Fr [] H H' → H'[G]? = some (.list (refL ds)) → PL (fun i => H.length ≤ i) H' ds (stepF hm room [] [] raws).1 → H'[M]? = some (.list (bytL (stepF hm room [] [] raws).2)) → H'[T]? = some (.tup [.ref G, .ref M]) → Q (.ref T) H') : Gam (n + 2) 363 [.ref r, .int room, .bool hm] H Q := by
  refine gam_go 36 [some (.ref r), some (.int room), some (.bool hm), none, none, none, none] rfl rfl rfl ?_
  (repeat' (first | walk_at "s" | refine stepS rfl ?_))
  have hle : (H ++ [AO.list []] ++ [AO.list []]).length = H.length + 2 := by simp
  have hle1 : (H ++ [AO.list []]).length = H.length + 1 := by rw [List.length_append, List.length_singleton]
  refine ⟨lt_lit rfl, lt_lit rfl, _, get_app (get_app hr), bL (om44 hl), tup_go rfl (List.cons_ne_nil _ _) rfl ?_⟩
  rw [hle, hle1]
  (repeat' (first | walk_at "s" | refine stepS rfl ?_))
  refine while_of (fun N loc H' => ∃ left ps ms ds Lf y, N = left.length ∧ loc = [some (.ref r), some (.int room), some (.bool hm), some (.ref H.length), some (.ref (H.length + 1)), some (.ref Lf), y] ∧
    (∀ b ∈ left, b ∈ raws) ∧ ps.length + left.length ≤ raws.length ∧ ms.length ≤ ps.length ∧ (∀ p ∈ ps, p.length ≤ raws.length) ∧ (left ≠ [] ∨ ps = []) ∧ stepF hm room ps ms left = stepF hm room [] [] raws ∧ Fr [] H H' ∧ H'[H.length]? = some (.list (refL ds)) ∧ H'[H.length + 1]? = some (.list (bytL ms)) ∧
    H'[Lf]? = some (.list (bytL left)) ∧ Lf ≠ H.length ∧ Lf ≠ H.length + 1 ∧ PL (fun i => H.length + 2 ≤ i) H' ds ps) ?_ (n := raws.length) ?_
  · rintro N loc H1 K ⟨left, ps, ms, ds, Lf, y, rfl, rfl, hmem, hn, hml, hpb, hlp, hst, f, g1, g2, g3, hL1, hL2, hpl⟩ hK
    have hdl := hpl.length
    have hll : (bytL left).length < 100000 := bL (om242 hl hn)
    have hmsl : (bytL ms).length < 100000 := bL (om243 hl hn hml)
    have hdsl : (refL ds).length < 100000 := rL (om244 hl hn hdl)
    (repeat' (first | walk_at "s" | refine stepS rfl ?_))
    refine x_len g3 hll ?_
    rw [bytL_length]
    (repeat' (first | walk_at "s" | refine stepS rfl ?_))
    -- the inner loop
    refine while_of (fun k loc H' => loc = [some (.ref r), some (.int room), some (.bool hm), some (.ref H.length), some (.ref (H.length + 1)), some (.ref Lf), some (.int k)] ∧ k ≤ left.length ∧ dn room left k = pm room left ∧ Fr [] H1 H') ?_ (n := left.length) ⟨rfl, Nat.le_refl _, rfl, Fr.refl ..⟩
    rintro k loc H2 K2 ⟨rfl, hk, hdn, f2⟩ hK2
    have g32 := f2.get _ _ g3 (by simp)
    -- when the inner loop has ended
    have fin : k = pm room left → ∀ H2, Fr [] H1 H2 → WSs (Gam (n + 1)) ir__law_filled_1a_2 [some (.ref r), some (.int room), some (.bool hm), some (.ref H.length), some (.ref (H.length + 1)), some (.ref Lf), some (.int k)] H2 (thenS K (thenS (fun loc H => WSs (Gam (n + 1)) .nil loc H (endQ Q)) (endQ Q))) := by
      intro hkp H2 f2
      have k1 := f2.get _ _ g1 (by simp)
      have k2 := f2.get _ _ g2 (by simp)
      have k3 := f2.get _ _ g3 (by simp)
      have hpl2 := hpl.fr f2 (by simp) (fun _ _ _ h => h)
      have lG := get_lt k1
      have lM := get_lt k2
      have lL := get_lt k3
      (repeat' (first | walk_at "s" | refine stepS rfl ?_))
      refine ⟨⟨_, k1⟩, _, k3, hll, ?_⟩
      rw [cut_take, bytL_take]
      (repeat' (first | walk_at "s" | refine stepS rfl ?_))
      refine ⟨_, get_app k1, hdsl, trivial, ?_⟩
      have f3 : Fr [H.length] H2 ((H2 ++ [AO.list (bytL (left.take k))]).set H.length (.list (refL ds ++ [.ref H2.length]))) := (Fr.app ..).then (Fr.put (by simp))
      have j3 := f3.get _ _ k3 (by simpa using hL1)
      (repeat' (first | walk_at "s" | refine stepS rfl ?_))
      refine ⟨_, j3, hll, ?_⟩
      rw [cut_drop, bytL_drop, ← refL_snoc]
      have f4 := f3.then (Fr.app _ _ [AO.list (bytL (left.drop k))])
      rw [← refL_snoc] at f4
      have hlG : H2.length ≠ H.length := by exact om245 lM
      have hlen4 : ((H2 ++ [AO.list (bytL (left.take k))]).set H.length (.list (refL (ds ++ [H2.length])))).length = H2.length + 1 := by rw [List.length_set, List.length_append, List.length_singleton]
      have k1' : ((H2 ++ [AO.list (bytL (left.take k))]).set H.length (.list (refL (ds ++ [H2.length]))) ++ [AO.list (bytL (left.drop k))])[H.length]? = some (.list (refL (ds ++ [H2.length]))) := get_app (get_set_eq (get_app k1))
      have k2' := f4.get _ _ k2 (by simp)
      have kL : ((H2 ++ [AO.list (bytL (left.take k))]).set H.length (.list (refL (ds ++ [H2.length]))) ++ [AO.list (bytL (left.drop k))])[H2.length + 1]? = some (.list (bytL (left.drop k))) := get_app1 hlen4.symm
      have kP : ((H2 ++ [AO.list (bytL (left.take k))]).set H.length (.list (refL (ds ++ [H2.length]))) ++ [AO.list (bytL (left.drop k))])[H2.length]? = some (.list (bytL (left.take k))) := get_app (get_set_ne get_len hlG.symm)
      have hpl4a := hpl2.fr f4 (fun r h => by simp; exact om246 h) (fun _ _ _ h => h)
      have hpl4 := hpl4a.snoc (by exact om247 lM : H.length + 2 ≤ H2.length) kP
      rw [hlen4]
      have hlen5 : ((H2 ++ [AO.list (bytL (left.take k))]).set H.length (.list (refL (ds ++ [H2.length]))) ++ [AO.list (bytL (left.drop k))]).length = H2.length + 2 := by rw [List.length_append, hlen4, List.length_singleton]
      have fA := f.then f2
      generalize hH4 : ((H2 ++ [AO.list (bytL (left.take k))]).set H.length (.list (refL (ds ++ [H2.length]))) ++ [AO.list (bytL (left.drop k))]) = H4 at *
      have fB : Fr [] H H4 := fA.trans f4 (by simp)
      have hlm : ms.length ≤ raws.length := by exact om248 hn hml
      have f5 := Fr.app [] H4 [AO.list []]
      (repeat' (first | walk_at "s" | refine stepS rfl ?_))
      refine ⟨lt_lit rfl, x_eqR (get_app kL) get_len ?_⟩
      by_cases hd : left.drop k = []
      · refine .inr ⟨by rw [hd]; rfl, prim_bytL _, ?_⟩
        (repeat' (first | walk_at "s" | refine stepS rfl ?_))
        have e : stepF hm room ps ms left = (ps ++ [left.take k], ms) := by rw [hkp]; exact stepF_end (by rw [← hkp]; exact hd) hlp
        rw [hst] at e
        have f6 := f5.then (Fr.app _ _ [.tup [.ref H.length, .ref (H.length + 1)]])
        refine ⟨⟨lt_lit rfl, List.cons_ne_nil _ _⟩, ?_⟩
        (repeat' (first | walk_at "s" | refine stepS rfl ?_))
        refine q _ _ _ _ (ds ++ [H2.length]) (fB.then f6) (f6.get _ _ k1' (by simp)) ?_ ?_ get_len
        · rw [e]; exact hpl4.fr f6 (by simp) (fun r x _ h => by exact om249 h)
        · rw [e]; exact f6.get _ _ k2' (by simp)
      · refine .inl ⟨by rw [bytL_length]; exact fun e => hd (List.length_eq_zero_iff.mp e), ?_⟩
        have hkl : k < left.length := by
          rcases Nat.lt_or_ge k left.length with g | g
          · exact g
          · exact absurd (List.drop_eq_nil_of_le g) hd
        have hk0 : 0 < k := by rw [hkp]; exact dn_pos room left _ (om238 hkl)
        have htl : (left.take k).length ≤ raws.length := by rw [List.length_take]; exact om250 hn
        have htne : left.take k ≠ [] := fun e => by have := congrArg List.length e; rw [List.length_take, List.length_nil] at this; exact (om240 hkl hk0 this).elim
        have hpb' : ∀ p ∈ ps ++ [left.take k], p.length ≤ raws.length := fun p hp => by
          rcases List.mem_append.mp hp with g | g
          · exact hpb p g
          · cases List.mem_singleton.mp g; exact htl
        have hps1 : (ps ++ [left.take k]).length = ps.length + 1 := by rw [List.length_append, List.length_singleton]
        (repeat' (first | walk_at "s" | refine stepS rfl ?_))
        cases hm with
        | false =>
          (repeat' (first | walk_at "s" | refine stepS rfl ?_))
          have e : stepF false room ps ms left = _ := stepF_rows (by rw [← hkp]; exact hd)
          rw [← hkp, hst] at e
          refine hK ((left.drop k).length) (by rw [List.length_drop]; exact om251 hkl hk0) _ _ ⟨left.drop k, ps ++ [left.take k], ms, ds ++ [H2.length], H2.length + 1, _, rfl, rfl, fun b hb' => hmem b (List.mem_of_mem_drop hb'), ?_, by exact om252 hml hps1, hpb', .inl hd, e.symm, fB.then f5, get_app k1', get_app k2', get_app kL, by exact om253 lM, by exact om166 lM, hpl4.fr f5 (by simp) (fun _ _ _ h => h)⟩
          rw [hps1, List.length_drop]; exact om254 hn hkl hk0
        | true =>
          (repeat' (first | walk_at "s" | refine stepS rfl ?_))
          obtain ⟨b, rr, hbr⟩ : ∃ b rr, left.drop k = b :: rr := by
            cases h : left.drop k with
            | nil => exact absurd h hd
            | cons b rr => exact ⟨b, rr, rfl⟩
          have hrl : rr.length + k + 1 = left.length := by
            have := congrArg List.length hbr; rw [List.length_drop, List.length_cons] at this; exact om255 this
          have hmemr : ∀ x ∈ rr, x ∈ raws := fun x hx => hmem x (List.mem_of_mem_drop (i := k) (by rw [hbr]; exact List.mem_cons_of_mem _ hx))
          rw [hbr] at kL
          have hbrl : (bytL (b :: rr)).length < 100000 := bL (by rw [List.length_cons]; exact om256 hl hn hrl)
          have e : stepF true room ps ms left = _ := stepF_btw (b := b) (r := rr) (by rw [← hkp]; exact hbr)
          rw [← hkp, hst] at e
          refine ⟨⟨_, get_app k2'⟩, ?_⟩
          refine x_idx (i := 0) (get_app kL) hbrl (v := .byt b) rfl ?_
          refine ⟨_, get_app k2', hmsl, trivial, ?_⟩
          rw [← bytL_snoc]
          have f6 : Fr [H.length + 1] H4 ((H4 ++ [AO.list []]).set (H.length + 1) (.list (bytL (ms ++ [b])))) := f5.nil.then (Fr.put (by simp))
          (repeat' (first | walk_at "s" | refine stepS rfl ?_))
          refine ⟨_, f6.get _ _ kL (by simp; exact om257 lM), hbrl, ?_⟩
          rw [show cut (bytL (b :: rr)) (some 1) none = bytL rr from (cut_drop (bytL (b :: rr)) 1).trans rfl]
          have hl6 : ((H4 ++ [AO.list []]).set (H.length + 1) (.list (bytL (ms ++ [b])))).length = H4.length + 1 := by rw [List.length_set, List.length_append, List.length_singleton]
          have kM : ((H4 ++ [AO.list []]).set (H.length + 1) (.list (bytL (ms ++ [b]))))[H.length + 1]? = some (.list (bytL (ms ++ [b]))) := get_set_eq (get_app k2')
          have k1'' := f6.get _ _ k1' (by simp)
          have oM : ∀ r, H.length + 2 ≤ r → r ∉ [H.length + 1] := fun r h => by simp; exact om258 h
          have hpl6a := hpl4a.fr f6 oM (fun _ _ _ h => h)
          have hpl6 := hpl4.fr f6 oM (fun _ _ _ h => h)
          have kP6 := f6.get _ _ kP (by simp; exact om259 lM)
          have fC : Fr [] H ((H4 ++ [AO.list []]).set (H.length + 1) (.list (bytL (ms ++ [b])))) := fB.trans f6 (by simp)
          rw [hl6]
          generalize ((H4 ++ [AO.list []]).set (H.length + 1) (.list (bytL (ms ++ [b])))) = H6 at *
          have f7 := Fr.app [] H6 [AO.list (bytL rr)]
          have kL7 : (H6 ++ [AO.list (bytL rr)])[H4.length + 1]? = some (.list (bytL rr)) := get_app1 hl6.symm
          have f8 := f7.then (Fr.app _ _ [AO.list []])
          (repeat' (first | walk_at "s" | refine stepS rfl ?_))
          refine ⟨lt_lit rfl, x_eqR (get_app kL7) get_len ?_⟩
          by_cases hrr : rr = []
          · subst hrr
            refine .inr ⟨rfl, prim_bytL _, ?_⟩
            obtain ⟨p0, x, hpx⟩ := snoc_of htne
            rw [hpx] at e kP6 htl
            rw [stepF_mend] at e
            simp only [List.length_append, List.length_singleton] at htl
            have lG6 := get_lt k1''
            have hl8 : (H6 ++ [AO.list (bytL [])] ++ [AO.list []]).length = H6.length + 2 := by simp
            generalize (H6 ++ [AO.list (bytL [])] ++ [AO.list []]) = H8 at *
            have m1 := f8.get _ _ k1'' (by simp)
            have m2 := f8.get _ _ kM (by simp)
            have m3 := f8.get _ _ kP6 (by simp)
            rw [bytL_snoc] at m2 m3
            have hP0 : H2.length ≠ H.length + 1 := by exact om260 lM
            have hl80 : H8.length ≠ H.length := by exact om261 lM hlen5 hl6 hl8
            have hl81 : H8.length ≠ H.length + 1 := by exact om262 lM hlen5 hl6 hl8
            have h01 : H.length ≠ H.length + 1 := by exact om130
            (repeat' (first | walk_at "s" | refine stepS rfl ?_))
            refine ⟨⟨_, m1⟩, ?_⟩
            refine x_last m2 (bL (om263 hl hlm)) ⟨lt_lit rfl, ?_⟩
            refine ⟨_, get_app m1, rL (by rw [List.length_append, List.length_singleton]; exact om264 hl hn hdl), trivial, ?_⟩
            rw [← refL_snoc]
            have n1 : ((H8 ++ [AO.list [AV.byt b]]).set H.length (.list (refL (ds ++ [H2.length] ++ [H8.length]))))[H.length]? = some (.list (refL (ds ++ [H2.length] ++ [H8.length]))) := get_set_eq (get_app m1)
            have n2 : ((H8 ++ [AO.list [AV.byt b]]).set H.length (.list (refL (ds ++ [H2.length] ++ [H8.length]))))[H.length + 1]? = some (.list (bytL ms ++ [.byt b])) := get_set_ne (get_app m2) h01
            have n3 : ((H8 ++ [AO.list [AV.byt b]]).set H.length (.list (refL (ds ++ [H2.length] ++ [H8.length]))))[H2.length]? = some (.list (bytL p0 ++ [.byt x])) := get_set_ne (get_app m3) hlG.symm
            have n4 : ((H8 ++ [AO.list [AV.byt b]]).set H.length (.list (refL (ds ++ [H2.length] ++ [H8.length]))))[H8.length]? = some (.list (bytL [b])) := get_set_ne get_len hl80.symm
            have f9 : Fr [H.length] H8 ((H8 ++ [AO.list [AV.byt b]]).set H.length (.list (refL (ds ++ [H2.length] ++ [H8.length])))) := (Fr.app ..).then (Fr.put (by simp))
            have hl9 : ((H8 ++ [AO.list [AV.byt b]]).set H.length (.list (refL (ds ++ [H2.length] ++ [H8.length])))).length = H8.length + 1 := by rw [List.length_set, List.length_append, List.length_singleton]
            generalize ((H8 ++ [AO.list [AV.byt b]]).set H.length (.list (refL (ds ++ [H2.length] ++ [H8.length])))) = H9 at *
            have hrr2 : refL (ds ++ [H2.length] ++ [H8.length]) = refL ds ++ [.ref H2.length, .ref H8.length] := by simp [refL]
            have hmsl2 : (bytL ms ++ [AV.byt b]).length < 100000 := by rw [List.length_append, bytL_length, List.length_singleton]; exact om265 hl hlm
            rw [hrr2] at n1
            (repeat' (first | walk_at "s" | refine stepS rfl ?_))
            refine x_last2 n1 (rL (om266 hl hn hdl)) ?_
            refine x_last n3 (bL (om267 hl htl)) ?_
            (repeat' (first | walk_at "s" | refine stepS rfl ?_))
            refine x_setN (i := 1) n2 hmsl2 (by decide) (by simp) ?_
            have hset : (bytL ms ++ [AV.byt b]).set ((bytL ms ++ [AV.byt b]).length - 1) (.byt x) = bytL (ms ++ [x]) := by
              rw [show (bytL ms ++ [AV.byt b]).length - 1 = (bytL ms).length by simp, set_mid, bytL_snoc]
            rw [hset]
            have o1 := get_set_ne (j := H.length + 1) (y := .list (bytL (ms ++ [x]))) n1 h01.symm
            have o2 : (H9.set (H.length + 1) (.list (bytL (ms ++ [x]))))[H.length + 1]? = some (.list (bytL (ms ++ [x]))) := get_set_eq n2
            have o3 := get_set_ne (j := H.length + 1) (y := .list (bytL (ms ++ [x]))) n3 hP0.symm
            have o4 := get_set_ne (j := H.length + 1) (y := .list (bytL (ms ++ [x]))) n4 hl81.symm
            have f10 : Fr [H.length + 1] H9 (H9.set (H.length + 1) (.list (bytL (ms ++ [x])))) := Fr.put (by simp)
            have hl10 : (H9.set (H.length + 1) (.list (bytL (ms ++ [x])))).length = H8.length + 1 := by rw [List.length_set]; exact hl9
            generalize (H9.set (H.length + 1) (.list (bytL (ms ++ [x])))) = H10 at *
            (repeat' (first | walk_at "s" | refine stepS rfl ?_))
            refine x_last2 o1 (rL (om266 hl hn hdl)) ?_
            (repeat' (first | walk_at "s" | refine stepS rfl ?_))
            refine ⟨_, o3, by rw [List.length_append, bytL_length, List.length_singleton]; exact om268 hl htl, ?_⟩
            rw [cut_init, List.dropLast_concat]
            (repeat' (first | walk_at "s" | refine stepS rfl ?_))
            refine x_setN (i := 2) (get_app o1) (by rw [List.length_append, refL_length]; simp; exact om269 hl hn hdl) (by decide) (by simp) ?_
            have hset2 : (refL ds ++ [AV.ref H2.length, .ref H8.length]).set ((refL ds ++ [AV.ref H2.length, .ref H8.length]).length - 2) (.ref H10.length) = refL (ds ++ [H10.length] ++ [H8.length]) := by
              rw [show (refL ds ++ [AV.ref H2.length, .ref H8.length]).length - 2 = (refL ds).length by simp, set_mid]
              simp [refL]
            rw [hset2]
            have f11 : Fr [H.length] H10 ((H10 ++ [AO.list (bytL p0)]).set H.length (.list (refL (ds ++ [H10.length] ++ [H8.length]))) ++ [.tup [.ref H.length, .ref (H.length + 1)]]) := (Fr.app ..).then ((Fr.put (by simp)).then (Fr.app ..))
            have fall : Fr [H.length, H.length + 1] H6 _ := f8.nil.then ((f9.mono (by simp)).then ((f10.mono (by simp)).then (f11.mono (by simp))))
            (repeat' (first | walk_at "s" | refine stepS rfl ?_))
            refine ⟨⟨lt_lit rfl, List.cons_ne_nil _ _⟩, ?_⟩
            (repeat' (first | walk_at "s" | refine stepS rfl ?_))
            refine q _ _ _ _ (ds ++ [H10.length] ++ [H8.length]) (fC.trans fall (by simp)) (get_app (get_set_eq (get_app o1))) ?_ ?_ get_len
            · rw [e]
              refine PL.snoc (om270 lM hlen5 hl6 hl8) (f11.get _ _ o4 (by simpa using hl80)) (PL.snoc (om271 lM hlen5 hl6 hl8 hl10) ?_ (hpl6a.fr fall (fun r h => by simp; exact om272 h) (fun r x _ h => by exact om249 h)))
              exact get_app (get_set_ne get_len (om273 lM hlen5 hl6 hl8 hl10))
            · rw [e]
              exact f11.get _ _ o2 (by simp)
          · refine .inl ⟨by rw [bytL_length]; exact fun e => hrr (List.length_eq_zero_iff.mp e), ?_⟩
            (repeat' (first | walk_at "s" | refine stepS rfl ?_))
            refine hK rr.length (om274 hrl) _ _ ⟨rr, ps ++ [left.take k], ms ++ [b], ds ++ [H2.length], H4.length + 1, _, rfl, rfl, hmemr, ?_, by rw [hps1, List.length_append, List.length_singleton]; exact om275 hml, hpb', .inl hrr, e.symm, fC.then f8, f8.get _ _ k1'' (by simp), f8.get _ _ kM (by simp), get_app kL7, by exact om276 lM hlen5, by exact om277 lM hlen5, hpl6.fr f8 (by simp) (fun _ _ _ h => h)⟩
            rw [hps1]; exact om278 hn hrl
    (repeat' (first | walk_at "s" | refine stepS rfl ?_))
    refine iteH_dec (fun h1 => ?_) (fun h1 => ?_)
    · (repeat' (first | walk_at "s" | refine stepS rfl ?_))
      refine ⟨_, g32, hll, ?_⟩
      rw [cut_take, bytL_take]
      refine F_law_used get_len (by rw [List.length_take]; exact om279 hl hn) (fun b hb' => Nat.lt_trans (hb b (hmem b (List.mem_of_mem_take hb'))) (by decide)) fun z => ?_
      have f3 := f2.then ((Fr.app [] H2 [.list (bytL (left.take k))]).then (Fr.app _ _ [z]))
      (repeat' (first | walk_at "s" | refine stepS rfl ?_))
      refine iteH_dec (fun h2 => ?_) (fun h2 => ?_)
      · (repeat' (first | walk_at "s" | refine stepS rfl ?_))
        refine hK2 (k - 1) (om280 h1) _ _ ⟨?_, by exact om281 hk, ?_, f3⟩
        · rw [show ((k - 1 : Nat) : Int) = (k : Int) - 1 by exact om282 h1]
        · rw [← dn_go (om283 h1) h2]; exact hdn
      · have hk2 : k = pm room left := by rw [← hdn]; exact (dn_stop (.inr (om227 h2))).symm
        (repeat' walk_at "s")
        exact fin hk2 _ f3
    · have hk2 : k = pm room left := by rw [← hdn]; exact (dn_stop (.inl (om284 h1))).symm
      (repeat' walk_at "s")
      exact fin hk2 _ f2
  · exact ⟨raws, [], [], [], H.length + 2, none, rfl, rfl, fun _ h => h, by simp, Nat.le_refl _, by simp, .inr rfl, rfl, (Fr.app ..).then ((Fr.app ..).then ((Fr.app ..).then (Fr.app ..))),
      get_app (get_app (get_app (get_app1 rfl))), get_app (get_app (get_app1 hle1.symm)), get_app (get_app1 hle.symm), by exact om285, by exact om173, trivial⟩
end
noncomputable def Gd (room : Int) (raws p : List B) : Prop := (∀ b ∈ p, b ∈ raws) ∧ (costs p : Int) ≤ room
theorem Gd.snoc {room : Int} {raws p : List B} {b : B} (h : Gd room raws p) (hb : b ∈ raws) (hc : (costs p : Int) + cost1 b ≤ room) : Gd room raws (p ++ [b]) := by
  refine ⟨fun x hx => ?_, ?_⟩
  · rcases List.mem_append.mp hx with g | g
    · exact h.1 x g
    · cases List.mem_singleton.mp g; exact hb
  · rw [costs_app, costs_cons, costs_nil]; exact om286 hc
theorem Gd.one {room : Int} {raws : List B} {b : B} (hb : b ∈ raws) (hc : (cost1 b : Int) ≤ room) : Gd room raws [b] := by
  have := Gd.snoc (p := []) (room := room) ⟨by simp, by simp [costs_nil]; unfold cost1 at hc; exact om287 hc⟩ hb (by simp [costs_nil]; exact hc)
  simpa using this
theorem packR_facts {room : Int} {raws : List B} (hc : ∀ b ∈ raws, (cost1 b : Int) ≤ room) : ∀ (todo : List B) (ps : List (List B)) (cur : List B), (∀ b ∈ todo, b ∈ raws) → (∀ p ∈ ps, Gd room raws p ∧ p ≠ []) → Gd room raws cur →
    (∀ p ∈ packR room ps cur todo, Gd room raws p) ∧ packR room ps cur todo ≠ [] ∧ (packR room ps cur todo).length ≤ ps.length + 1 + todo.length ∧ ∀ p ∈ (packR room ps cur todo).dropLast, p ≠ []
  | [], ps, cur, _, hps, hcur => by
    unfold packR
    refine ⟨fun p hp => ?_, by simp, by simp, fun p hp => ?_⟩
    · rcases List.mem_append.mp hp with g | g
      · exact (hps p g).1
      · cases List.mem_singleton.mp g; exact hcur
    · rw [List.dropLast_concat] at hp; exact (hps p hp).2
  | b :: todo, ps, cur, hm, hps, hcur => by
    have hb := hm b (by simp)
    have hm' : ∀ x ∈ todo, x ∈ raws := fun x hx => hm x (List.mem_cons_of_mem _ hx)
    unfold packR
    by_cases h : (costs cur : Int) + cost1 b > room ∧ cur ≠ []
    · rw [if_pos h]
      have := packR_facts hc todo (ps ++ [cur]) [b] hm' (fun p hp => by
        rcases List.mem_append.mp hp with g | g
        · exact hps p g
        · cases List.mem_singleton.mp g; exact ⟨hcur, h.2⟩) (Gd.one hb (hc b hb))
      refine ⟨this.1, this.2.1, ?_, this.2.2.2⟩
      have := this.2.2.1
      simp at this ⊢; exact om288 this
    · rw [if_neg h]
      have hf : (costs cur : Int) + cost1 b ≤ room := by
        by_cases e : cur = []
        · subst e; have := hc b hb; simp [costs_nil]; exact this
        · have : ¬ ((costs cur : Int) + cost1 b > room) := fun g => h ⟨g, e⟩
          exact om289 this
      have := packR_facts hc todo ps (cur ++ [b]) hm' hps (hcur.snoc hb hf)
      refine ⟨this.1, this.2.1, ?_, this.2.2.2⟩
      have := this.2.2.1
      simp at this ⊢; exact om290 ‹_›
theorem packB_facts {room : Int} {raws : List B} (hr : 0 ≤ room) (hc : ∀ b ∈ raws, (cost1 b : Int) ≤ room) : ∀ (todo : List B) (ps : List (List B)) (ms cur : List B), (∀ b ∈ todo, b ∈ raws) → (∀ p ∈ ps, Gd room raws p ∧ p ≠ []) → Gd room raws cur → (∀ b ∈ ms, b ∈ raws) → ms.length = ps.length →
    (∀ p ∈ (packB room ps ms cur todo).1, Gd room raws p) ∧ (packB room ps ms cur todo).2.length + 1 = (packB room ps ms cur todo).1.length ∧ (packB room ps ms cur todo).1.length ≤ ps.length + 1 + todo.length ∧ ∀ b ∈ (packB room ps ms cur todo).2, b ∈ raws
  | [], ps, ms, cur, _, hps, hcur, hms, hl => by
    unfold packB
    by_cases h : cur = [] ∧ ps ≠ []
    · obtain ⟨rfl, hne⟩ := h
      obtain ⟨ps0, p1, rfl⟩ := snoc_of hne
      obtain ⟨hg, hn⟩ := hps p1 (by simp)
      obtain ⟨p0, x, rfl⟩ := snoc_of hn
      have hms' : ms ≠ [] := fun e => by subst e; simp at hl
      obtain ⟨ms0, z, rfl⟩ := snoc_of hms'
      rw [fixB_snoc]
      simp only [List.length_append, List.length_cons, List.length_nil] at hl ⊢
      refine ⟨fun p hp => ?_, by exact om291 hl, by exact om292, fun b hb => ?_⟩
      · simp only [List.mem_append, List.mem_singleton] at hp
        rcases hp with (hp | rfl) | rfl
        · exact (hps p (by simp [hp])).1
        · refine ⟨fun b hb => hg.1 b (by simp [hb]), ?_⟩
          have := hg.2
          rw [costs_app] at this; exact om293 this
        · exact Gd.one (hms z (by simp)) (hc z (hms z (by simp)))
      · simp only [List.mem_append, List.mem_singleton] at hb
        rcases hb with hb | rfl
        · exact hms b (by simp [hb])
        · exact hg.1 b (by simp)
    · unfold fixB
      rw [if_neg h]
      refine ⟨fun p hp => ?_, by simp [hl], by simp, hms⟩
      rcases List.mem_append.mp hp with g | g
      · exact (hps p g).1
      · cases List.mem_singleton.mp g; exact hcur
  | b :: todo, ps, ms, cur, hm, hps, hcur, hms, hl => by
    have hb := hm b (by simp)
    have hm' : ∀ x ∈ todo, x ∈ raws := fun x hx => hm x (List.mem_cons_of_mem _ hx)
    unfold packB
    by_cases h : (costs cur : Int) + cost1 b > room ∧ cur ≠ []
    · rw [if_pos h]
      have := packB_facts hr hc todo (ps ++ [cur]) (ms ++ [b]) [] hm' (fun p hp => by
        rcases List.mem_append.mp hp with g | g
        · exact hps p g
        · cases List.mem_singleton.mp g; exact ⟨hcur, h.2⟩) ⟨by simp, by simpa [costs_nil] using hr⟩ (fun x hx => by
        rcases List.mem_append.mp hx with g | g
        · exact hms x g
        · cases List.mem_singleton.mp g; exact hb) (by simp [hl])
      refine ⟨this.1, this.2.1, ?_, this.2.2.2⟩
      have := this.2.2.1
      simp at this ⊢; exact om288 this
    · rw [if_neg h]
      have hf : (costs cur : Int) + cost1 b ≤ room := by
        by_cases e : cur = []
        · subst e; have := hc b hb; simp [costs_nil]; exact this
        · have : ¬ ((costs cur : Int) + cost1 b > room) := fun g => h ⟨g, e⟩
          exact om289 this
      have := packB_facts hr hc todo ps ms (cur ++ [b]) hm' hps (hcur.snoc hb hf) hms hl
      refine ⟨this.1, this.2.1, ?_, this.2.2.2⟩
      have := this.2.2.1
      simp at this ⊢; exact om294 ‹_›
noncomputable def RawOK (k half : Int) (b : B) : Prop := (b.length : Int) ≤ half - 1 ∧ (k = 13 → ∃ u v t, b = u :: v :: t ∧ u.toNat < 128 ∧ v.toNat < 128) ∧ (k < 10 → ∃ c t, b = four c ++ t ∧ 0 ≤ c ∧ c < 65536)
theorem flat_rep (c : UInt8) (k : Nat) : (List.replicate k [c]).flatten = List.replicate k c := by
  induction k with
  | zero => rfl
  | succ k ih => simp [List.replicate_succ, ih]
theorem ub_lt {i : Int} (h0 : 0 ≤ i) (h : i < 128) : (ub i).toNat < 128 := by
  unfold ub
  simp; exact om295 h
section
variable {H H' : AH} {Q : PQ} {n : Nat} {m : List Nat}
theorem F_law_raws {s : Nat} {k size half : Int} (h : Src H s) (hh : half = (size - if k > 5 then 8 else 12) / 2 - 2) (h0 : 10 ≤ half) (h1 : half ≤ 60) (q : ∀ H' R raws, Fr [s] H H' → Src H' s → H'[R]? = some (.list (bytL raws)) → H.length ≤ R → raws.length ≤ 10 → (∀ b ∈ raws, RawOK k half b) → Q (.ref R) H') : Gam (n + 3) 377 [.ref s, .int k, .int size] H Q := by
  have hsl := h.lt
  refine gam_go 38 [some (.ref s), some (.int k), some (.int size), none, none, none, none] rfl rfl rfl ?_
  (repeat' (first | walk_at "s" | refine stepS rfl ?_))
  refine F_law_room ?_
  (repeat' (first | walk_at "s" | refine stepS rfl ?_))
  refine ⟨⟨by decide, by decide⟩, ?_⟩
  rw [← hh]
  refine ⟨lt_lit rfl, tup_go rfl (List.cons_ne_nil _ _) rfl ?_⟩
  (repeat' (first | walk_at "s" | refine stepS rfl ?_))
  have f1 := (Fr.app [] H [AO.list []]).then (Fr.app _ _ [AO.tup [AV.int half, AV.ref H.length]])
  have e1 : (H ++ [AO.list []] ++ [AO.tup [AV.int half, AV.ref H.length]])[H.length]? = some (.list []) := get_app get_len
  have s1 := h.fr f1 (by simp)
  generalize (H ++ [AO.list []] ++ [AO.tup [AV.int half, AV.ref H.length]]) = H1 at *
  refine F_take s1 (by decide) fun d H2 hd0 hd1 f2 hl2 s2 => ?_
  (repeat' (first | walk_at "s" | refine stepS rfl ?_))
  refine ⟨by exact om296 hd0 hd1, ?_⟩
  rw [upto_one]
  have oR : H.length ∉ [s] := by simp; exact om297 hsl
  have e2 := f2.get _ _ e1 oR
  have fH2 : Fr [s] H H2 := f1.nil.then f2
  refine turns_inv (fun rest loc H' => ∃ i x y raws, i ≤ d.toNat ∧ rest = ((List.range d.toNat).drop i).map (fun (i : Nat) => AV.int i) ∧ loc = [some (.ref s), some (.int k), some (.int size), some (.int half), some (.ref H.length), x, y] ∧
    raws.length = i ∧ Fr [s] H H' ∧ Src H' s ∧ H'[H.length]? = some (.list (bytL raws)) ∧ ∀ b ∈ raws, RawOK k half b) ?_ ?_ ?_ _ _ _ ⟨0, none, none, [], Nat.zero_le _, by simp, rfl, rfl, fH2, s2, e2, by simp⟩
  · intros; trivial
  · rintro v rest loc H' K ⟨i, x, y, raws, hi, er, rfl, hrl, f, hs, hR, hok⟩ hK
    obtain ⟨hlt, rfl, rfl⟩ := rng_cons er
    have hi10 : i < 10 := by exact om298 hd1 hlt
    have oS : s ∉ [H.length] := by simp; exact om299 hsl
    -- the end: one more cell
    have fin : ∀ (b : B) (H3 : AH) y, Fr [s] H' H3 → Src H3 s → RawOK k half b → K [some (.ref s), some (.int k), some (.int size), some (.int half), some (.ref H.length), some (.int i), y] (H3.set H.length (.list (bytL raws ++ [.byt b]))) := by
      intro b H3 y f3 s3 hb
      rw [← bytL_snoc]
      have g := f3.get _ _ hR oR
      refine hK _ _ ⟨i + 1, _, _, raws ++ [b], hlt, rfl, rfl, by rw [List.length_append, hrl]; rfl, Fr.trans (m' := [s, H.length]) f ((f3.mono (by simp)).then (Fr.put (by simp))) (by simp), s3.fr (Fr.put (m := [H.length]) (by simp)) oS, get_set_eq g, fun c hc => ?_⟩
      rcases List.mem_append.mp hc with g | g
      · exact hok c g
      · cases List.mem_singleton.mp g; exact hb
    have hrl' : (bytL raws).length < 100000 := bL (om300 hrl hi10)
    (repeat' (first | walk_at "s" | refine stepS rfl ?_))
    refine F_take hs (by decide) fun c H3 hc0 hc1 f3 hl3 s3 => ?_
    (repeat' (first | walk_at "s" | refine stepS rfl ?_))
    refine ⟨lt_lit rfl, ?_⟩
    refine x_bytes get_len (ns := [c]) rfl (by simpa using ⟨hc0, hc1⟩) (lt_lit rfl) ?_
    have f4 : Fr [s] H' (H3 ++ [.list [.int c]]) := f3.then (Fr.app ..)
    have s4 : Src (H3 ++ [.list [.int c]]) s := s3.app
    (repeat' (first | walk_at "s" | refine stepS rfl ?_))
    refine F_take s4 (om301 h0 h1) fun z H5 hz0 hz1 f5 hl5 s5 => ?_
    (repeat' (first | walk_at "s" | refine stepS rfl ?_))
    refine ⟨lt_lit rfl, ?_⟩
    have s6 : Src (H5 ++ [.list [.int 0, .int 1, .int (half - 6), .int z]]) s := s5.app
    have f6 : Fr [s] H' (H5 ++ [.list [.int 0, .int 1, .int (half - 6), .int z]]) := f4.then (f5.then (Fr.app ..))
    refine F_one s6 get_len (Nat.ne_of_lt s5.lt) (lt_lit rfl) (lt_lit rfl) fun dd vv H7 hv f7 hl7 s7 => ?_
    have hvv : ∃ w : Int, vv = .int w ∧ 0 ≤ w ∧ w ≤ half - 6 := by
      rcases dd with _ | _ | _ | _ | dd
      · cases hv; exact ⟨0, rfl, by exact om302, by exact om303 h0⟩
      · cases hv; exact ⟨1, rfl, by exact om304, by exact om305 h0⟩
      · cases hv; exact ⟨half - 6, rfl, by exact om303 h0, by exact om306⟩
      · cases hv; exact ⟨z, rfl, by exact om307 hz0, by exact om308 hz1⟩
      · simp at hv
    obtain ⟨w, rfl, hw0, hw1⟩ := hvv
    have f8 : Fr [s] H' H7 := f6.then f7
    have hR7 := f8.get _ _ hR oR
    (repeat' (first | walk_at "s" | refine stepS rfl ?_))
    refine ⟨rfl, hw0, by exact om309 h1 hw1, ?_⟩
    simp only [List.map_cons, List.map_nil]
    rw [flat_rep]
    generalize hrest : List.replicate w.toNat (Int.toNat c).toUInt8 = rst
    have hrl3 : (rst.length : Int) = w := by rw [← hrest, List.length_replicate]; exact om310 hw0
    have hrst : rst.length < 100000 := by exact om311 h1 hw1 hrl3
    (repeat' (first | walk_at "s" | refine stepS rfl ?_))
    refine iteH_dec (fun h13 => ?_) (fun h13 => ?_)
    · (repeat' (first | walk_at "s" | refine stepS rfl ?_))
      refine ⟨⟨_, hR7⟩, hrst, ?_⟩
      (repeat' (first | walk_at "s" | refine stepS rfl ?_))
      refine ⟨lt_lit rfl, ?_⟩
      refine x_bytes get_len (ns := [rst.length + 1, 10 + i, 200]) rfl (by simp; exact om312 h1 hi10 hw1 hrl3) (lt_lit rfl) ?_
      (repeat' (first | walk_at "s" | refine stepS rfl ?_))
      refine ⟨by simp; exact om313 h1 hw1 hrl3, _, get_app hR7, hrl', trivial, ?_⟩
      (repeat' (first | walk_at "s" | refine stepS rfl ?_))
      exact fin _ _ _ (f8.then (Fr.app ..)) s7.app ⟨by simp; exact om314 hw1 hrl3, fun _ => ⟨_, _, _, rfl, ub_lt om315 (om316 h1 hw1 hrl3), ub_lt om317 (om318 hi10)⟩, fun g => by exact (om319 h13 g).elim⟩
    · (repeat' (first | walk_at "s" | refine stepS rfl ?_))
      refine iteH_dec (fun h10 => ?_) (fun h10 => ?_)
      · (repeat' (first | walk_at "s" | refine stepS rfl ?_))
        refine ⟨⟨_, hR7⟩, hrst, ?_⟩
        (repeat' (first | walk_at "s" | refine stepS rfl ?_))
        refine ⟨lt_lit rfl, ?_⟩
        refine x_bytes get_len (ns := [rst.length + 1, 10 + i]) rfl (by simp; exact om312 h1 hi10 hw1 hrl3) (lt_lit rfl) ?_
        (repeat' (first | walk_at "s" | refine stepS rfl ?_))
        refine ⟨by simp; exact om320 h1 hw1 hrl3, _, get_app hR7, hrl', trivial, ?_⟩
        (repeat' (first | walk_at "s" | refine stepS rfl ?_))
        exact fin _ _ _ (f8.then (Fr.app ..)) s7.app ⟨by simp; exact om321 hw1 hrl3, fun g => absurd g h13, fun g => by exact (om322 h10 g).elim⟩
      · (repeat' (first | walk_at "s" | refine stepS rfl ?_))
        refine ⟨⟨_, hR7⟩, ?_⟩
        refine F_law_four (om323 hi10) fun z2 => ?_
        (repeat' (first | walk_at "s" | refine stepS rfl ?_))
        refine ⟨lt_lit rfl, ?_⟩
        refine x_bytes get_len (ns := [10 + i]) rfl (by simp; exact om324 hi10) (lt_lit rfl) ?_
        (repeat' (first | walk_at "s" | refine stepS rfl ?_))
        refine ⟨lt_lit rfl, ?_⟩
        (repeat' (first | walk_at "s" | refine stepS rfl ?_))
        refine ⟨by simp [four]; exact om325 h1 hw1 hrl3, _, get_app (get_app hR7), hrl', trivial, ?_⟩
        (repeat' (first | walk_at "s" | refine stepS rfl ?_))
        exact fin _ _ _ (f8.then ((Fr.app ..).then (Fr.app ..))) s7.app.app ⟨by simp [four]; exact om326 hw1 hrl3, fun g => absurd g h13, fun _ => ⟨100 + i, _, by rw [List.append_assoc], by exact om327, by exact om328 hi10⟩⟩
  · rintro loc H' ⟨i, x, y, raws, hi, er, rfl, hrl, f, hs, hR, hok⟩
    (repeat' (first | walk_at "s" | refine stepS rfl ?_))
    exact q _ _ raws f hs hR (Nat.le_refl _) (om329 hd1 hi hrl) hok
end
noncomputable def childV (m : B) : Int := (m.getD 2 0).toNat * 256 + (m.getD 3 0).toNat
theorem childV_four {c : Int} {t : B} (h : 0 ≤ c ∧ c < 65536) : childV (four c ++ t) = c := by
  show ((ub (c / 256)).toNat : Int) * 256 + (ub (c % 256)).toNat = c
  unfold ub
  simp
  exact om105 h
noncomputable def rtsOf (k right : Int) (pages : List (List B)) (ms : List B) : List Int := if k < 10 then ms.map childV ++ [right] else List.replicate pages.length right
noncomputable def abOf (k : Int) (pages : List (List B)) (ms : List B) : List B := if k = 13 then pages.dropLast.map rowOf else if k = 10 then ms else ms.map (·.drop 4)
theorem costs_ge (bs : List B) : 6 * bs.length ≤ costs bs := by
  induction bs with
  | nil => simp
  | cons b r ih => rw [costs_cons, List.length_cons]; unfold cost1 plen; exact om330 ih
structure Due (size : Nat) (k right : Int) (raws : List B) (pages : List (List B)) (ms : List B) : Prop where
  hk : k = 13 ∨ k = 10 ∨ k = 2 ∨ k = 5
  fill : stepF (k != 13) (size - headK k) [] [] raws = (pages, ms)
  fits : Fits size k pages
  ne : pages ≠ []
  ml : k ≠ 13 → ms.length + 1 = pages.length
  ml13 : k = 13 → ms = []
  mb : ∀ b ∈ ms, b.length < 1000
  mc : k < 10 → ∀ b ∈ ms, ∃ c t, b = four c ++ t ∧ 0 ≤ c ∧ c < 65536
  fin : k = 13 → ∀ p ∈ pages.dropLast, RowEnd p
  rt : 0 ≤ right ∧ right < 65536
  pn : pages.length < 1000
  hs : size ≤ 1000
section
variable {size : Nat} {k right : Int} {raws : List B} {pages : List (List B)} {ms : List B}
theorem Due.ab_len (D : Due size k right raws pages ms) : (abOf k pages ms).length + 1 = pages.length := by
  have hz := List.length_pos_iff.mpr D.ne
  unfold abOf
  by_cases h : k = 13
  · rw [if_pos h, List.length_map, List.length_dropLast]; exact om331 hz
  · rw [if_neg h]
    have := D.ml h
    split
    · exact this
    · rw [List.length_map]; exact this
theorem Due.rts_len (D : Due size k right raws pages ms) : (rtsOf k right pages ms).length = pages.length := by
  unfold rtsOf
  split
  · rw [List.length_append, List.length_map, List.length_singleton]; exact D.ml (om332 ‹_›)
  · simp
theorem Due.rts_rng (D : Due size k right raws pages ms) : ∀ r ∈ rtsOf k right pages ms, 0 ≤ r ∧ r < 65536 := by
  intro r hr
  unfold rtsOf at hr
  split at hr
  · rename_i h
    rcases List.mem_append.mp hr with g | g
    · obtain ⟨m, hm, rfl⟩ := List.mem_map.mp g
      obtain ⟨c, t, rfl, hc⟩ := D.mc h m hm
      rw [childV_four hc]; exact hc
    · cases List.mem_singleton.mp g; exact D.rt
  · rw [List.eq_of_mem_replicate hr]; exact D.rt
end
theorem above_getElem (f : Nat) : ∀ (ms : List B) (i : Nat) (h : i < ms.length) (h' : i < (above f ms).length), (above f ms)[i] = four (f + i : Nat) ++ ms[i]
  | m :: r, 0, _, _ => rfl
  | m :: r, i + 1, h, h' => by
    have := above_getElem (f + 1) r i (by simpa using h) (by rw [above_length]; simpa using h)
    simp only [above, List.getElem_cons_succ]
    rw [this, show f + 1 + i = f + (i + 1) by exact om23]
section
variable {H H' : AH} {Q : PQ} {n : Nat} {m : List Nat}
theorem F_law_due {r size first : Nat} {k right : Int} {raws : List B} {pages : List (List B)} {ms : List B} (D : Due size k right raws pages ms) (hr : H[r]? = some (.list (bytL raws))) (hl : raws.length < 1000) (hb : ∀ b ∈ raws, b.length < 1000) (hfp : first < 30000)
    (q : ∀ H' T L A, Fr [] H H' → H'[T]? = some (.tup [.ref L, .ref A, .int (first + pages.length - 1 : Nat)]) → H'[L]? = some (.list (bytL (laidB size k pages (rtsOf k right pages ms)))) → H'[A]? = some (.list (bytL (above first (abOf k pages ms)))) → H.length ≤ L → H.length ≤ A → Q (.ref T) H') :
    Gam (n + 3) 384 [.int k, .int size, .ref r, .int right, .int first] H Q := by
  have hk := D.hk
  have hpn := D.pn
  have hs := D.hs
  have hpz := List.length_pos_iff.mpr D.ne
  have hrl := D.rts_len
  have hal := D.ab_len
  have hll := laidB_length (size := size) (k := k) hrl
  have hae : (above first (abOf k pages ms)).length + 1 = pages.length := by rw [above_length]; exact hal
  refine gam_go 39 [some (.int k), some (.int size), some (.ref r), some (.int right), some (.int first), none, none, none, none, none, none] rfl rfl rfl ?_
  (repeat' (first | walk_at "s" | refine stepS rfl ?_))
  refine F_law_room ?_
  have hroom : ((size : Int) - if k > 5 then 8 else 12) = size - headK k := by rcases hk with rfl | rfl | rfl | rfl <;> rfl
  rw [hroom]
  (repeat' (first | walk_at "s" | refine stepS rfl ?_))
  refine F_law_filled hr hl hb fun H1 G M T ds f1 hG hpl hM hT => ?_
  rw [D.fill] at hpl hM
  dsimp only at hpl hM
  have hdl := hpl.length
  have hml : ms.length ≤ pages.length := by
    by_cases h : k = 13
    · rw [D.ml13 h]; exact Nat.zero_le _
    · have := D.ml h; exact om333 this
  have hGl : (refL ds).length < 100000 := rL (om38 hpn hdl)
  have hMl : (bytL ms).length < 100000 := bL (om334 hpn hml)
  (repeat' (first | walk_at "s" | refine stepS rfl ?_))
  refine ⟨_, hT, rfl, ?_⟩
  (repeat' (first | walk_at "s" | refine stepS rfl ?_))
  refine ⟨lt_lit rfl, lt_lit rfl, tup_go rfl (List.cons_ne_nil _ _) rfl ?_⟩
  (repeat' (first | walk_at "s" | refine stepS rfl ?_))
  have hl1 : (H1 ++ [AO.list []]).length = H1.length + 1 := by rw [List.length_append, List.length_singleton]
  rw [hl1]
  have f2 := ((Fr.app [] H1 [AO.list []]).then (Fr.app _ _ [AO.list []])).then (Fr.app _ _ [AO.tup [AV.ref H1.length, AV.ref (H1.length + 1)]])
  have eL : (H1 ++ [AO.list []] ++ [AO.list []] ++ [AO.tup [AV.ref H1.length, AV.ref (H1.length + 1)]])[H1.length]? = some (.list []) := get_app (get_app get_len)
  have eA : (H1 ++ [AO.list []] ++ [AO.list []] ++ [AO.tup [AV.ref H1.length, AV.ref (H1.length + 1)]])[H1.length + 1]? = some (.list []) := get_app (get_app1 hl1.symm)
  generalize (H1 ++ [AO.list []] ++ [AO.list []] ++ [AO.tup [AV.ref H1.length, AV.ref (H1.length + 1)]]) = H2 at *
  have hG2 := f2.get _ _ hG (by simp)
  have hM2 := f2.get _ _ hM (by simp)
  have hpl2 : PL (fun i => i < H1.length) H2 ds pages := hpl.fr f2 (by simp) (fun r x e _ => get_lt e)
  have hok : ∀ r, r < H1.length → r ∉ [H1.length, H1.length + 1] := fun r h => by simp; exact om335 h
  have oG := hok _ (get_lt hG)
  have oM := hok _ (get_lt hM)
  have h01 : H1.length ≠ H1.length + 1 := by exact om130
  refine x_len hG2 hGl ?_
  (repeat' (first | walk_at "s" | refine stepS rfl ?_))
  rw [refL_length, hdl, upto_one, Int.toNat_natCast]
  refine ⟨by exact om41 hpn, ?_⟩
  refine turns_inv (fun rest loc H' => ∃ i x y, i ≤ pages.length ∧ rest = ((List.range pages.length).drop i).map (fun (i : Nat) => AV.int i) ∧
    loc = [some (.int k), some (.int size), some (.ref r), some (.int right), some (.int first), some (.ref G), some (.ref M), some (.ref H1.length), some (.ref (H1.length + 1)), x, y] ∧ Fr [H1.length, H1.length + 1] H2 H' ∧
    H'[H1.length]? = some (.list (bytL ((laidB size k pages (rtsOf k right pages ms)).take i))) ∧ H'[H1.length + 1]? = some (.list (bytL ((above first (abOf k pages ms)).take i)))) ?_ ?_ ?_ _ _ _ ⟨0, none, none, Nat.zero_le _, by simp, rfl, Fr.refl .., by simpa [bytL] using eL, by simpa [bytL] using eA⟩
  · intros; trivial
  · rintro v rest loc H' K ⟨i, x, y, hi, er, rfl, f, gL, gA⟩ hK
    obtain ⟨hlt, rfl, rfl⟩ := rng_cons er
    have jG := f.get _ _ hG2 oG
    have jM := f.get _ _ hM2 oM
    have jpl := hpl2.fr f hok (fun _ _ _ h => h)
    obtain ⟨pr, hpr1, hpr2, hpr3⟩ := jpl.get (List.getElem?_eq_getElem hlt)
    have hprv : (refL ds)[i]? = some (.ref pr) := by rw [refL, List.getElem?_map, hpr1]; rfl
    obtain ⟨hpb, hpc, hpl0⟩ := D.fits pages[i] (List.getElem_mem hlt)
    have hp6 := costs_ge pages[i]
    have hh0 : 8 ≤ headK k := by unfold headK; split <;> omega
    have hilr : i < (rtsOf k right pages ms).length := by exact om336 hrl hlt
    have hill : i < (laidB size k pages (rtsOf k right pages ms)).length := by exact om336 hll hlt
    -- from the right child on
    have rest : ∀ c, (rtsOf k right pages ms)[i]? = some c → WSs (Gam (n + 2)) ir__law_due_2b_1
        [some (.int k), some (.int size), some (.ref r), some (.int right), some (.int first), some (.ref G), some (.ref M), some (.ref H1.length), some (.ref (H1.length + 1)), some (.int i), some (.int c)] H' (thenS K (thenS (fun loc H => WSs (Gam (n + 2)) ir__law_due_3 loc H (endQ Q)) (endQ Q))) := by
      intro c hc
      (repeat' (first | walk_at "s" | refine stepS rfl ?_))
      refine ⟨⟨_, gL⟩, ?_⟩
      refine x_idx jG hGl hprv ?_
      have hcr := D.rts_rng c (List.mem_of_getElem? hc)
      refine F_law_page hpr3 (om337 hs hpc hp6 hh0) hpb hpc hs (om338 hk) hcr (by rcases hk with rfl | rfl | rfl | rfl <;> rfl) fun H3 f3 => ?_
      have gL3 := f3.get _ _ gL (by simp)
      refine ⟨_, gL3, bL (by rw [List.length_take]; exact om339 hpn hlt), trivial, ?_⟩
      have hpg : pageB size k pages[i] c = (laidB size k pages (rtsOf k right pages ms))[i] := by
        rw [laidB_get hlt hilr]
        rw [List.getElem?_eq_getElem hilr] at hc
        cases hc; rfl
      rw [hpg, ← bytL_snoc, ← List.take_succ_eq_append_getElem hill]
      have f4 : Fr [H1.length, H1.length + 1] H' (H3.set H1.length (.list (bytL ((laidB size k pages (rtsOf k right pages ms)).take (i + 1))))) := f3.nil.then (Fr.put (by simp))
      have gL4 : (H3.set H1.length (.list (bytL ((laidB size k pages (rtsOf k right pages ms)).take (i + 1)))))[H1.length]? = _ := get_set_eq gL3
      have gA4 := get_set_ne (j := H1.length) (y := .list (bytL ((laidB size k pages (rtsOf k right pages ms)).take (i + 1)))) (f3.get _ _ gA (by simp)) h01
      generalize (H3.set H1.length (.list (bytL ((laidB size k pages (rtsOf k right pages ms)).take (i + 1))))) = H4 at *
      have jG4 := f4.get _ _ jG oG
      have jM4 := f4.get _ _ jM oM
      have jp4 := f4.get _ _ hpr3 (hok _ hpr2)
      (repeat' (first | walk_at "s" | refine stepS rfl ?_))
      refine x_len jG4 hGl ?_
      (repeat' (first | walk_at "s" | refine stepS rfl ?_))
      rw [refL_length, hdl]
      refine iteH_dec (fun h1 => ?_) (fun h1 => ?_)
      · have hia : i < (abOf k pages ms).length := by exact om340 hal h1
        have hiA : i < (above first (abOf k pages ms)).length := by exact om340 hae h1
        have hage := above_getElem first (abOf k pages ms) i hia hiA
        -- one more cell above
        have fin : ∀ (H5 : AH) (b : B), Fr [] H4 H5 → b = (above first (abOf k pages ms))[i] → K [some (.int k), some (.int size), some (.ref r), some (.int right), some (.int first), some (.ref G), some (.ref M), some (.ref H1.length), some (.ref (H1.length + 1)), some (.int i), some (.int c)] (H5.set (H1.length + 1) (.list (bytL ((above first (abOf k pages ms)).take i) ++ [.byt b]))) := by
          intro H5 b f5 e
          rw [e, ← bytL_snoc, ← List.take_succ_eq_append_getElem hiA]
          exact hK _ _ ⟨i + 1, _, _, hlt, rfl, rfl, f.then (f4.then (f5.nil.then (Fr.put (by simp)))), get_set_ne (f5.get _ _ gL4 (by simp)) h01.symm, get_set_eq (f5.get _ _ gA4 (by simp))⟩
        have hfi : (first : Int) + (i : Int) = ((first + i : Nat) : Int) := by exact om88
        have hfr : 0 ≤ ((first + i : Nat) : Int) ∧ ((first + i : Nat) : Int) < 65536 := by exact om341 hfp hpn h1
        have hlA : (bytL ((above first (abOf k pages ms)).take i)).length < 100000 := bL (by rw [List.length_take]; exact om342 hpn h1)
        (repeat' (first | walk_at "s" | refine stepS rfl ?_))
        refine iteH_dec (fun h13 => ?_) (fun h13 => ?_)
        · (repeat' (first | walk_at "s" | refine stepS rfl ?_))
          refine ⟨⟨_, gA4⟩, ?_⟩
          rw [hfi]
          refine F_law_four hfr fun z => ?_
          have f5 := Fr.app [] H4 [z]
          refine x_idx (f5.get _ _ jG4 (by simp)) hGl hprv ?_
          have hpd : pages[i] ∈ pages.dropLast := by
            rw [List.dropLast_eq_take]
            exact List.mem_take_iff_getElem.mpr ⟨i, by exact om343 h1, rfl⟩
          obtain ⟨p0, u, v, t, e, hu, hv⟩ := D.fin h13 pages[i] hpd
          have jp5 := f5.get _ _ jp4 (by simp)
          have hbl := hpb (u :: v :: t) (by rw [e]; simp)
          rw [e] at hpl0
          simp only [List.length_append, List.length_cons, List.length_nil] at hbl hpl0
          rw [e, bytL_snoc] at jp5
          refine x_last jp5 (bL (om53 hpl0)) ?_
          (repeat' (first | walk_at "s" | refine stepS rfl ?_))
          rw [show cut (u :: v :: t) (some 1) (some 2) = [v] from (cut_mid (u :: v :: t) 1 2).trans rfl]
          refine ⟨by simp; exact om344 hbl, lt_lit rfl, _, f5.get _ _ gA4 (by simp), hlA, trivial, ?_⟩
          (repeat' (first | walk_at "s" | refine stepS rfl ?_))
          refine fin _ _ f5 ?_
          rw [hage]
          congr 1
          have : (abOf k pages ms)[i] = rowOf pages[i] := by
            simp only [abOf, if_pos h13, List.getElem_map, List.getElem_dropLast]
          rw [this, e]
          simp [rowOf, List.getLastD_eq_getLast?]
        · have hml1 := D.ml h13
          have him : i < ms.length := by exact om345 h1 hml1
          have hmv : (bytL ms)[i]? = some (.byt ms[i]) := by rw [bytL, List.getElem?_map, List.getElem?_eq_getElem him]; rfl
          (repeat' (first | walk_at "s" | refine stepS rfl ?_))
          refine ⟨⟨_, gA4⟩, ?_⟩
          rw [hfi]
          refine F_law_four hfr fun z => ?_
          have f5 := Fr.app [] H4 [z]
          have jM5 := f5.get _ _ jM4 (by simp)
          have hmbl := D.mb ms[i] (List.getElem_mem him)
          (repeat' (first | walk_at "s" | refine stepS rfl ?_))
          refine iteH_dec (fun h10 => ?_) (fun h10 => ?_)
          · (repeat' (first | walk_at "s" | refine stepS rfl ?_))
            refine x_idx jM5 hMl hmv ?_
            (repeat' (first | walk_at "s" | refine stepS rfl ?_))
            refine ⟨by simp [four]; exact om46 hmbl, _, f5.get _ _ gA4 (by simp), hlA, trivial, ?_⟩
            (repeat' (first | walk_at "s" | refine stepS rfl ?_))
            refine fin _ _ f5 ?_
            rw [hage]
            congr 1
            simp only [abOf, if_neg h13, if_pos h10]
          · (repeat' (first | walk_at "s" | refine stepS rfl ?_))
            refine x_idx jM5 hMl hmv ?_
            (repeat' (first | walk_at "s" | refine stepS rfl ?_))
            rw [show cut ms[i] (some 4) none = ms[i].drop 4 from cut_drop ms[i] 4]
            refine ⟨by exact om44 hmbl, by simp [four]; exact om346 hmbl, _, f5.get _ _ gA4 (by simp), hlA, trivial, ?_⟩
            (repeat' (first | walk_at "s" | refine stepS rfl ?_))
            refine fin _ _ f5 ?_
            rw [hage]
            congr 1
            simp only [abOf, if_neg h13, if_neg h10, List.getElem_map]
      · (repeat' (first | walk_at "s" | refine stepS rfl ?_))
        refine hK _ _ ⟨i + 1, _, _, hlt, rfl, rfl, f.then f4, gL4, ?_⟩
        rw [gA4, List.take_of_length_le (om347 hae h1), List.take_of_length_le (om348 hae h1)]
    have hright : ¬ (i < ms.length ∧ k < 10) → (rtsOf k right pages ms)[i]? = some right := fun h => by
      unfold rtsOf
      split
      · rename_i h2
        have := D.ml (om332 h2)
        rw [List.getElem?_append_right (by rw [List.length_map]; exact om349 h h2), show i - (ms.map childV).length = 0 by rw [List.length_map]; exact om350 hlt this]; rfl
      · simp [hlt]
    (repeat' (first | walk_at "s" | refine stepS rfl ?_))
    refine x_len jM hMl ?_
    (repeat' (first | walk_at "s" | refine stepS rfl ?_))
    rw [bytL_length]
    refine iteH_dec (fun h1 => ?_) (fun h1 => ?_)
    · (repeat' (first | walk_at "s" | refine stepS rfl ?_))
      refine iteH_dec (fun h2 => ?_) (fun h2 => ?_)
      · have him : i < ms.length := by exact om67 h1
        obtain ⟨c, t, e, hc⟩ := D.mc h2 ms[i] (List.getElem_mem him)
        have hmbl := D.mb ms[i] (List.getElem_mem him)
        have hm4 : 4 ≤ ms[i].length := by rw [e]; simp [four]
        have hmv : (bytL ms)[i]? = some (.byt ms[i]) := by rw [bytL, List.getElem?_map, List.getElem?_eq_getElem him]; rfl
        (repeat' (first | walk_at "s" | refine stepS rfl ?_))
        refine x_idx jM hMl hmv ?_
        (repeat' (first | walk_at "s" | refine stepS rfl ?_))
        refine ⟨⟨by decide, by exact om351 hm4, by exact om44 hmbl⟩, ?_⟩
        (repeat' (first | walk_at "s" | refine stepS rfl ?_))
        refine ⟨.inr (by decide), ?_⟩
        refine x_idx jM hMl hmv ?_
        (repeat' (first | walk_at "s" | refine stepS rfl ?_))
        refine ⟨⟨by decide, by exact om352 hm4, by exact om44 hmbl⟩, ?_⟩
        (repeat' walk_at "s")
        have hv : ((ms[i].getD (Int.toNat 2) 0).toNat : Int) * 256 + ((ms[i].getD (Int.toNat 3) 0).toNat : Int) = childV ms[i] := rfl
        rw [hv]
        exact rest (childV ms[i]) (by unfold rtsOf; rw [if_pos h2, List.getElem?_append_left (by simpa using him), List.getElem?_map, List.getElem?_eq_getElem him]; rfl)
      · (repeat' walk_at "s")
        exact rest right (hright fun h => h2 h.2)
    · (repeat' walk_at "s")
      exact rest right (hright fun h => h1 (Int.ofNat_lt.mpr h.1))
  · rintro loc H' ⟨i, x, y, hi, er, rfl, f, gL, gA⟩
    cases rng_nil hi er
    rw [List.take_of_length_le (by omega)] at gL gA
    (repeat' (first | walk_at "s" | refine stepS rfl ?_))
    refine x_len (f.get _ _ hG2 oG) hGl ?_
    (repeat' (first | walk_at "s" | refine stepS rfl ?_))
    rw [refL_length, hdl, show (first : Int) + (pages.length : Int) - 1 = ((first + pages.length - 1 : Nat) : Int) by exact om353 hae]
    have f9 := Fr.app [] H' [.tup [.ref H1.length, .ref (H1.length + 1), .int (first + pages.length - 1 : Nat)]]
    have hH := f1.len
    refine ⟨⟨lt_lit rfl, List.cons_ne_nil _ _⟩, ?_⟩
    (repeat' (first | walk_at "s" | refine stepS rfl ?_))
    exact q _ _ _ _ (Fr.trans (m := []) (f1.then f2) (f.then (f9.nil)) (by simp; exact om354 hH)) get_len (f9.get _ _ gL (by simp)) (f9.get _ _ gA (by simp)) hH (om355 hH)
end
theorem pageB_leaf {size k r r' : Int} {p : List B} (h : leafK k = true) : pageB size k p r = pageB size k p r' := by
  unfold pageB frontB headB; simp only [h, if_true]
theorem laidB_leaf {size k : Int} {pages : List (List B)} {r r' : List Int} (h : leafK k = true) (h1 : r.length = pages.length) (h2 : r'.length = pages.length) : laidB size k pages r = laidB size k pages r' := by
  apply List.ext_getElem
  · rw [laidB_length h1, laidB_length h2]
  · intro i h3 h4
    have := laidB_length (size := size) (k := k) h1
    rw [laidB_get (om356 h3 this) (om357 h1 h3 this) h3, laidB_get (om356 h3 this) (om357 h2 h3 this) h4]
    exact pageB_leaf h
theorem due_of {size : Nat} {k half right : Int} {raws : List B} (hk : k = 13 ∨ k = 10 ∨ k = 2 ∨ k = 5) (hsz : size = 64 ∨ size = 128) (hh : half = ((size : Int) - if k > 5 then 8 else 12) / 2 - 2) (hok : ∀ b ∈ raws, RawOK k half b) (hl : raws.length ≤ 10) (hr : 0 ≤ right ∧ right < 65536) : ∃ pages ms, Due size k right raws pages ms := by
  have hroom : ((size : Int) - if k > 5 then 8 else 12) = size - headK k := by rcases hk with rfl | rfl | rfl | rfl <;> rfl
  rw [hroom] at hh
  have hhk : headK k = 8 ∨ headK k = 12 := by unfold headK; split <;> omega
  have hc : ∀ b ∈ raws, (cost1 b : Int) ≤ size - headK k := fun b hb => by
    have := (hok b hb).1
    unfold cost1 plen
    exact om358 hh this
  have hb : ∀ b ∈ raws, b.length < 1000 := fun b hb => by have := (hok b hb).1; exact om359 hsz hh hhk this
  have hfit : ∀ pages : List (List B), (∀ p ∈ pages, Gd (size - headK k) raws p) → Fits size k pages := fun pages h p hp => by
    have g := h p hp
    have := costs_ge p
    refine ⟨fun b hb' => hb b (g.1 b hb'), g.2, ?_⟩
    have := g.2
    exact om360 hsz hhk ‹_› this
  by_cases h13 : k = 13
  · subst h13
    have F := packR_facts hc raws [] [] (fun _ h => h) (by simp) ⟨by simp, by simp [costs_nil]; exact om361 hsz hhk⟩
    refine ⟨packR (size - headK 13) [] [] raws, [], .inl rfl, rfl, hfit _ F.1, F.2.1, fun h => absurd rfl h, fun _ => rfl, by simp, fun h => absurd h (by decide), fun _ p hp => ?_, hr, ?_, by exact om362 hsz⟩
    · obtain ⟨p0, b, rfl⟩ := snoc_of (F.2.2.2 p hp)
      have hbm := (F.1 _ (List.dropLast_subset _ hp)).1 b (by simp)
      obtain ⟨u, v, t, rfl, hu, hv⟩ := (hok b hbm).2.1 rfl
      exact ⟨p0, u, v, t, rfl, hu, hv⟩
    · have := F.2.2.1; simp at this; exact om363 hl this
  · have F := packB_facts (om364 hsz hhk) hc raws [] [] [] (fun _ h => h) (by simp) ⟨by simp, by simp [costs_nil]; exact om361 hsz hhk⟩ (by simp) rfl
    refine ⟨(packB (size - headK k) [] [] [] raws).1, (packB (size - headK k) [] [] [] raws).2, hk, ?_, hfit _ F.1, ?_, fun _ => F.2.1, fun h => absurd h h13, fun b hb' => hb b (F.2.2.2 b hb'), fun h10 b hb' => ?_, fun h => absurd h h13, hr, ?_, by exact om362 hsz⟩
    · unfold stepF; rw [if_pos (by simpa using h13)]
    · intro e; have := F.2.1; rw [e] at this; simp at this
    · exact (hok b (F.2.2.2 b hb')).2.2 h10
    · have := F.2.2.1; simp at this; exact om363 hl this
section
variable {H H' : AH} {Q : PQ} {n : Nat} {m : List Nat}
/-- the end of a law of a store: what was told, and the pages -/
theorem told_eq {T L L' : Nat} {vs : List AV} {lst : AV} {K : Bool → Prop} {i : Nat} (hT : H[T]? = some (.tup [.ref L, lst])) (hi : H[i]? = some (.tup [.ref L', lst])) (hL : H[L]? = some (.list vs)) (hL' : H[L']? = some (.list vs)) (hp : ∀ v ∈ vs, IsPrim v) (hlst : IsPrim lst) (q : K true) : eqA (.ref T) (.ref i) H K :=
  Or.inr ⟨_, _, _, _, hT, hi, ⟨vs, L, rfl, hL, hp, L', rfl, hL'⟩, rfl, hlst, q⟩
theorem store_told {st d P S r size : Nat} {k right : Int} {raws pg : List B} {pages : List (List B)} {ms : List B} (D : Due size k right raws pages ms) (h : Sto H st d P S size pg) (hr : H[r]? = some (.list (bytL raws))) (hl : raws.length < 1000) (hb : ∀ b ∈ raws, b.length < 1000) (hp : pg ≠ []) (hpg : pg.length < 5000) (hpb : ∀ b ∈ pg, b.length < 10000) {Γ : Orc} (hΓ : Γ = Gam (n + 6))
    (q : ∀ H' T L, Fr [P] H H' → Sto H' st d P S size (pg ++ laidB size k pages (rtsOf k right pages ms)) → H'[T]? = some (.tup [.ref L, .int (pg.length + pages.length : Nat)]) → H'[L]? = some (.list (bytL (above (pg.length + 1) (abOf k pages ms)))) → Q (.ref T) H') :
    (k > 5 → Γ 248 [.ref st, .int k, .ref r] H Q) ∧ (¬ k > 5 → Γ 253 [.ref st, .int k, .ref r, .int right] H Q) := by
  subst hΓ
  have hs := D.hs
  have hpz := List.length_pos_iff.mpr D.ne
  have hrl := D.rts_len
  have hzl : (zs pages.length).length = pages.length := by simp [zs]
  rcases D.hk with e | e | e
  · subst e
    refine ⟨fun _ => ?_, fun h => absurd (by decide) h⟩
    have hfill := D.fill
    have e1 : packR ((size : Int) - 8) [] [] raws = pages := congrArg Prod.fst hfill
    have e2 : [] = ms := congrArg Prod.snd hfill
    refine F_store_leaves13 h hr hl hb (by rw [e1]; exact D.fits) (by rw [e1]; exact D.ne) (by rw [e1]; exact D.fin rfl) hs (by rw [e1]; exact D.pn) hp hpg hpb ?_
    rw [e1, laidB_leaf rfl hzl hrl]
    exact q
  · subst e
    refine ⟨fun _ => ?_, fun h => absurd (by decide) h⟩
    have hfill : packB ((size : Int) - 8) [] [] [] raws = (pages, ms) := D.fill
    have := D.ml (by decide)
    refine F_store_leaves10 h hr hl hb hfill D.fits D.ne (om333 this) D.mb hs D.pn hp hpg hpb ?_
    rw [laidB_leaf rfl hzl hrl]
    exact q
  · have h10 : k < 10 := by exact om365 e
    have h13 : k ≠ 13 := by exact om332 h10
    refine ⟨fun g => absurd g (om366 e), fun _ => ?_⟩
    have hfill : packB ((size : Int) - headK k) [] [] [] raws = (pages, ms) := by
      have := D.fill; unfold stepF at this; rw [if_pos (by simpa using h13)] at this; exact this
    have hml := D.ml h13
    have hrts : rtsOf k right pages ms = ms.map childV ++ [right] := by unfold rtsOf; rw [if_pos h10]
    refine F_store_inner (rts := rtsOf k right pages ms) h hr hl hb hfill D.fits hml D.mb hs (om367 e) hrl D.rts_rng ?_ ?_ D.pn hp hpg hpb ?_
    · rw [hrts, List.getElem?_append_right (by simp)]; simp
    · intro i b hib
      have him := (List.getElem?_eq_some_iff.mp hib).1
      obtain ⟨c, t, rfl, hc⟩ := D.mc h10 b (List.mem_of_getElem? hib)
      refine ⟨c, t, rfl, ?_⟩
      rw [hrts, List.getElem?_append_left (by simpa using him), List.getElem?_map, hib]
      simp [childV_four hc]
    · have : abOf k pages ms = ms.map (·.drop 4) := by unfold abOf; rw [if_neg h13, if_neg (om368 ‹_›)]
      rw [← this]
      exact q
end
theorem bytL_app (a b : List B) : bytL (a ++ b) = bytL a ++ bytL b := by simp [bytL]
theorem bytL_rep (k : Nat) (b : B) : bytL (List.replicate k b) = List.replicate k (.byt b) := by simp [bytL]
section
variable {H H' : AH} {Q : PQ} {n : Nat} {m : List Nat}
theorem F_stored_right {s size : Nat} {k : Int} (h : Src H s) (hk : k = 13 ∨ k = 10 ∨ k = 2 ∨ k = 5) (hsz : size = 64 ∨ size = 128) (q : ∀ H', Fr [s] H H' → Src H' s → Q (.bool true) H') : Gam (n + 7) 391 [.ref s, .int k, .int size] H Q := by
  have hsl := h.lt
  have hs : size ≤ 1000 := by exact om362 hsz
  refine gam_go 40 [some (.ref s), some (.int k), some (.int size), none, none, none, none, none, none, none, none, none] rfl rfl rfl ?_
  (repeat' (first | walk_at "s" | refine stepS rfl ?_))
  refine ⟨267, rfl, F_store_init fun S1 => ⟨rfl, ?_⟩⟩
  have f1 := Fr.app [] H [.dict [(.page_size, .int size), (.pages, .ref (H.length + 2)), (.spare, .ref (H.length + 3))], .inst 312 H.length, .list [], .list []]
  have s1 := h.fr f1 (by simp)
  have hl1 : (H ++ [AO.dict [(.page_size, .int size), (.pages, .ref (H.length + 2)), (.spare, .ref (H.length + 3))], .inst 312 H.length, .list [], .list []]).length = H.length + 4 := by simp
  generalize (H ++ [AO.dict [(.page_size, .int size), (.pages, .ref (H.length + 2)), (.spare, .ref (H.length + 3))], .inst 312 H.length, .list [], .list []]) = H1 at *
  (repeat' (first | walk_at "s" | refine stepS rfl ?_))
  refine F_law_raws s1 rfl (by rcases hk with rfl | rfl | rfl | rfl <;> rcases hsz with rfl | rfl <;> decide) (by rcases hk with rfl | rfl | rfl | rfl <;> rcases hsz with rfl | rfl <;> decide) fun H2 R raws f2 s2 hR hRl hrl hok => ?_
  generalize hhalf : ((size : Int) - if k > 5 then 8 else 12) / 2 - 2 = half at hok
  (repeat' (first | walk_at "s" | refine stepS rfl ?_))
  refine F_take s2 (by decide) fun rr H3 hr0 hr1 f3 hl3 s3 => ?_
  have hb : ∀ b ∈ raws, b.length < 1000 := fun b hb => by
    have := (hok b hb).1
    rcases hk with rfl | rfl | rfl | rfl <;> rcases hsz with rfl | rfl <;> simp at hhalf <;> omega
  obtain ⟨pages, ms, D⟩ := due_of (right := 1 + rr) hk hsz hhalf.symm hok hrl (om369 hr0 hr1)
  refine tup_go rfl (List.cons_ne_nil _ _) rfl ?_
  (repeat' (first | walk_at "s" | refine stepS rfl ?_))
  have hRs : R ≠ s := by exact om370 hsl hl1 hRl
  have oP0 : H.length ∉ [s] := by simp; exact om297 hsl
  have oP1 : H.length + 1 ∉ [s] := by simp; exact om371 hsl
  have oP2 : H.length + 2 ∉ [s] := by simp; exact om372 hsl
  have oR : R ∉ [s] := by simp; exact om373 hsl hl1 hRl
  have f4 : Fr [s] H1 (H3 ++ [.tup [.ref (H.length + 1), .ref R, .int (1 + rr)]]) := f2.then (f3.then (Fr.app ..))
  have S4 : Sto (H3 ++ [.tup [.ref (H.length + 1), .ref R, .int (1 + rr)]]) (H.length + 1) H.length (H.length + 2) (H.length + 3) size [] := S1.fr f4 oP1 oP0 oP2
  have s4 : Src (H3 ++ [.tup [.ref (H.length + 1), .ref R, .int (1 + rr)]]) s := s3.app
  have hR4 : (H3 ++ [AO.tup [.ref (H.length + 1), .ref R, .int (1 + rr)]])[R]? = _ := get_app (f3.get _ _ hR oR)
  generalize (H3 ++ [AO.tup [.ref (H.length + 1), .ref R, .int (1 + rr)]]) = H4 at *
  refine F_take s4 (by decide) fun c H5 hc0 hc1 f5 hl5 s5 => ?_
  (repeat' (first | walk_at "s" | refine stepS rfl ?_))
  rw [upto_one]
  have S5 := S4.fr f5 oP1 oP0 oP2
  have hR5 := f5.get _ _ hR4 oR
  refine ⟨by exact om374 hc0 hc1, ?_⟩
  refine turns_inv (fun rest loc H' => ∃ i x, i ≤ (1 + c).toNat ∧ rest = ((List.range (1 + c).toNat).drop i).map (fun (i : Nat) => AV.int i) ∧
    loc = [some (.ref s), some (.int k), some (.int size), some (.ref (H.length + 1)), some (.ref R), some (.int (1 + rr)), x, none, none, none, none, none] ∧ Fr [H.length + 2] H5 H' ∧ Sto H' (H.length + 1) H.length (H.length + 2) (H.length + 3) size (List.replicate i (zeros size))) ?_ ?_ ?_ _ _ _ ⟨0, none, by exact om375, by simp, rfl, Fr.refl .., S5⟩
  · intros; trivial
  · rintro v rest loc H' K ⟨i, x, hi, er, rfl, f, S⟩ hK
    obtain ⟨hlt, rfl, rfl⟩ := rng_cons er
    (repeat' (first | walk_at "s" | refine stepS rfl ?_))
    refine ⟨_, _, _, _, S.inst, S.dict, rfl, F_extend S hs (by simp; exact om376 hc1 hlt) ?_⟩
    refine ⟨trivial, ?_⟩
    (repeat' (first | walk_at "s" | refine stepS rfl ?_))
    refine hK _ _ ⟨i + 1, _, hlt, rfl, rfl, f.then (Fr.put (by simp)), ?_⟩
    have := S.put (pg' := List.replicate i (zeros size) ++ [List.replicate size 0])
    rw [← rep_app]; exact this
  · rintro loc H6 ⟨i, x, hi, er, rfl, f6, S6⟩
    have hge := rng_nil hi er
    generalize hmany : (1 + c).toNat = many at *
    subst hge
    have hm0 : 0 < i := by exact om377 hc0 hmany
    have hpgl : (List.replicate i (zeros size)).length = i := by simp
    have hpne : List.replicate i (zeros size) ≠ [] := fun e => by have := congrArg List.length e; simp at this; exact (om378 hm0 this).elim
    have hpgb : ∀ b ∈ List.replicate i (zeros size), b.length < 10000 := fun b hb => by rw [List.eq_of_mem_replicate hb]; simp [zeros]; exact om36 hs
    (repeat' (first | walk_at "s" | refine stepS rfl ?_))
    refine ⟨_, _, _, _, S6.inst, S6.dict, rfl, F_page_count S6 (by rw [hpgl]; exact om379 hc1 hmany) ?_⟩
    (repeat' (first | walk_at "s" | refine stepS rfl ?_))
    rw [hpgl, show (i : Int) + 1 = ((i + 1 : Nat) : Int) by exact om380]
    have hR6 := f6.get _ _ hR5 (by simp; exact om204 hl1 hRl)
    have s6 := s5.fr f6 (by simp; exact om381 hsl)
    refine F_law_due D hR6 (om382 hrl) hb (om383 hc1 hmany) fun H7 T L A f7 hT hL hA hLl hAl => ?_
    have S7 := S6.fr0 f7
    have s7 := s6.fr f7 (by simp)
    have lP6 := get_lt S6.pgs
    have hlast : (i + 1 + pages.length - 1 : Nat) = i + pages.length := by exact om384
    rw [hlast] at hT
    (repeat' (first | walk_at "s" | refine stepS rfl ?_))
    refine ⟨_, hT, rfl, ?_⟩
    have lP7 := get_lt S7.pgs
    have oL : L ∉ [H.length + 2] := by simp; exact om206 hLl lP6
    have oA : A ∉ [H.length + 2] := by simp; exact om206 hAl lP6
    -- the end
    have fin : ∀ (H8 : AH) (T8 L8 : Nat), Fr [H.length + 2] H7 H8 → Sto H8 (H.length + 1) H.length (H.length + 2) (H.length + 3) size (List.replicate i (zeros size) ++ laidB size k pages (rtsOf k (1 + rr) pages ms)) →
        H8[T8]? = some (.tup [.ref L8, .int ((List.replicate i (zeros size)).length + pages.length : Nat)]) → H8[L8]? = some (.list (bytL (above ((List.replicate i (zeros size)).length + 1) (abOf k pages ms)))) →
        WSs (Gam (n + 6)) ir__law_stored_right_5 [some (.ref s), some (.int k), some (.int size), some (.ref (H.length + 1)), some (.ref R), some (.int (1 + rr)), x, some (.int i), some (.ref L), some (.ref A), some (.int (i + pages.length : Nat)), some (.ref T8)] H8 (endQ Q) := by
      intro H8 T8 L8 f8 S8 e1 e2
      rw [hpgl] at e1 e2
      (repeat' (first | walk_at "s" | refine stepS rfl ?_))
      refine ⟨⟨lt_lit rfl, List.cons_ne_nil _ _⟩, ?_⟩
      have f9 := Fr.app [] H8 [AO.tup [.ref A, .int (i + pages.length : Nat)]]
      refine told_eq (get_app e1) get_len (get_app e2) (f9.get _ _ (f8.get _ _ hA oA) (by simp)) (prim_bytL _) trivial ?_
      (repeat' (first | walk_at "s" | refine stepS rfl ?_))
      have S9 := S8.fr0 f9
      refine S9.r_pages ?_
      (repeat' (first | walk_at "s" | refine stepS rfl ?_))
      refine ⟨by exact om118 hs, lt_lit rfl, _, get_len, by exact om55, by exact om385 hc1 hmany, ?_⟩
      rw [Int.toNat_natCast, Int.toNat_natCast]
      have f10 := f9.then ((Fr.app [] _ [AO.list [.byt (List.replicate size 0)]]).then (Fr.app _ _ [AO.list (List.replicate i (.byt (List.replicate size 0)))]))
      have S10 := S8.fr0 f10
      have hLd := D.rts_len
      have hll := laidB_length (size := size) (k := k) hLd
      have hpn := D.pn
      refine ⟨_, _, get_len, f10.get _ _ (f8.get _ _ hL oL) (by simp), by rw [List.length_replicate, bytL_length, hll]; exact om386 hc1 hmany hpn, ?_⟩
      refine x_eqR (get_app S10.pgs) get_len (.inr ⟨?_, prim_bytL _, ?_⟩)
      · rw [bytL_app, bytL_rep]; rfl
      · have fin1 : Fr [s, H.length + 2] H1 H8 := (f4.mono (by simp)).then ((f5.mono (by simp)).then ((f6.mono (by simp)).then (f7.nil.then (f8.mono (by simp)))))
        refine q _ (Fr.trans f1.nil (fin1.then ((f10.then (Fr.app ..)).nil)) (by simp)) ?_
        exact (s7.fr f8 (by simp; exact om381 hsl)).fr (f10.then (Fr.app ..)) (by simp)
    have hR7 := f7.get _ _ hR6 (by simp)
    (repeat' (first | walk_at "s" | refine stepS rfl ?_))
    refine iteH_dec (fun hg => ?_) (fun hg => ?_)
    · (repeat' (first | walk_at "s" | refine stepS rfl ?_))
      refine (store_told (n := n) D S7 hR7 (om382 hrl) hb hpne (om387 hc1 hmany hpgl) hpgb rfl (fun H8 T8 L8 f8 S8 e1 e2 => ?_)).1 hg
      (repeat' walk_at "s")
      exact fin H8 T8 L8 f8 S8 e1 e2
    · (repeat' (first | walk_at "s" | refine stepS rfl ?_))
      refine (store_told (n := n) D S7 hR7 (om382 hrl) hb hpne (om387 hc1 hmany hpgl) hpgb rfl (fun H8 T8 L8 f8 S8 e1 e2 => ?_)).2 hg
      (repeat' walk_at "s")
      exact fin H8 T8 L8 f8 S8 e1 e2
end
theorem iteH_ne {A C : AH → Prop} {H : AH} {b c : B} (h : b ≠ c) (a : A H) : iteH A C (b != c) H := by
  rw [show (b != c) = true by simpa using h]; exact a
theorem iteH_eq {A C : AH → Prop} {H : AH} {b c : B} (h : b = c) (a : C H) : iteH A C (b != c) H := by
  rw [show (b != c) = false by simpa using h]; exact a
section
variable {H H' : AH} {Q : PQ} {n : Nat} {m : List Nat}
theorem F_chain_right {s size : Nat} (h : Src H s) (hsz : size = 64 ∨ size = 128) (q : ∀ H', Fr [s] H H' → Src H' s → Q (.bool true) H') : Gam (n + 5) 396 [.ref s, .int size] H Q := by
  have hsl := h.lt
  have hs : size ≤ 1000 := by exact om362 hsz
  obtain ⟨room, hrm⟩ : ∃ room, size = room + 4 := ⟨size - 4, by exact om388 hsz⟩
  have hr0 : 60 ≤ room := by exact om389 hsz hrm
  have hr1 : room ≤ 124 := by exact om390 hsz hrm
  refine gam_go 41 [some (.ref s), some (.int size), none, none, none, none, none, none, none, none, none, none] rfl rfl rfl ?_
  (repeat' (first | walk_at "s" | refine stepS rfl ?_))
  refine ⟨267, rfl, F_store_init fun S1 => ⟨rfl, ?_⟩⟩
  have f1 := Fr.app [] H [.dict [(.page_size, .int size), (.pages, .ref (H.length + 2)), (.spare, .ref (H.length + 3))], .inst 312 H.length, .list [], .list []]
  have s1 := h.fr f1 (by simp)
  have hl1 : (H ++ [AO.dict [(.page_size, .int size), (.pages, .ref (H.length + 2)), (.spare, .ref (H.length + 3))], .inst 312 H.length, .list [], .list []]).length = H.length + 4 := by simp
  generalize (H ++ [AO.dict [(.page_size, .int size), (.pages, .ref (H.length + 2)), (.spare, .ref (H.length + 3))], .inst 312 H.length, .list [], .list []]) = H1 at *
  (repeat' (first | walk_at "s" | refine stepS rfl ?_))
  rw [show (size : Int) - 4 = (room : Int) by exact om82 hrm]
  refine tup_go rfl (List.cons_ne_nil _ _) rfl ?_
  have f4 : Fr [s] H1 (H1 ++ [.tup [.ref (H.length + 1), .int room]]) := Fr.app ..
  have S4 := S1.app (K := [.tup [.ref (H.length + 1), .int room]])
  have s4 : Src (H1 ++ [.tup [.ref (H.length + 1), .int room]]) s := s1.app
  generalize (H1 ++ [AO.tup [.ref (H.length + 1), .int room]]) = H4 at *
  have oP0 : H.length ∉ [s] := by simp; exact om297 hsl
  have oP1 : H.length + 1 ∉ [s] := by simp; exact om371 hsl
  have oP2 : H.length + 2 ∉ [s] := by simp; exact om372 hsl
  have oS : s ∉ [H.length + 2] := by simp; exact om381 hsl
  (repeat' (first | walk_at "s" | refine stepS rfl ?_))
  refine F_take s4 (by decide) fun c H5 hc0 hc1 f5 hl5 s5 => ?_
  (repeat' (first | walk_at "s" | refine stepS rfl ?_))
  rw [upto_one]
  have S5 := S4.fr f5 oP1 oP0 oP2
  refine ⟨by exact om374 hc0 hc1, ?_⟩
  refine turns_inv (fun rest loc H' => ∃ i x, i ≤ (1 + c).toNat ∧ rest = ((List.range (1 + c).toNat).drop i).map (fun (i : Nat) => AV.int i) ∧
    loc = [some (.ref s), some (.int size), some (.ref (H.length + 1)), some (.int room), x, none, none, none, none, none, none, none] ∧ Fr [H.length + 2] H5 H' ∧ Sto H' (H.length + 1) H.length (H.length + 2) (H.length + 3) size (List.replicate i (zeros size))) ?_ ?_ ?_ _ _ _ ⟨0, none, Nat.zero_le _, by simp, rfl, Fr.refl .., S5⟩
  · intros; trivial
  · rintro v rest loc H' K ⟨i, x, hi, er, rfl, f, S⟩ hK
    obtain ⟨hlt, rfl, rfl⟩ := rng_cons er
    (repeat' (first | walk_at "s" | refine stepS rfl ?_))
    refine ⟨_, _, _, _, S.inst, S.dict, rfl, F_extend S hs (by simp; exact om376 hc1 hlt) ?_⟩
    refine ⟨trivial, ?_⟩
    (repeat' (first | walk_at "s" | refine stepS rfl ?_))
    refine hK _ _ ⟨i + 1, _, hlt, rfl, rfl, f.then (Fr.put (by simp)), ?_⟩
    have := S.put (pg' := List.replicate i (zeros size) ++ [List.replicate size 0])
    rw [← rep_app]; exact this
  · rintro loc H6 ⟨i, x, hi, er, rfl, f6, S6⟩
    have hge := rng_nil hi er
    generalize hmany : (1 + c).toNat = many at *
    subst hge
    have hm0 : 0 < i := by exact om377 hc0 hmany
    have hpgl : (List.replicate i (zeros size)).length = i := by simp
    have s6 := s5.fr f6 oS
    have lP6 := get_lt S6.pgs
    (repeat' (first | walk_at "s" | refine stepS rfl ?_))
    refine ⟨.inr (by omega), ?_⟩
    (repeat' (first | walk_at "s" | refine stepS rfl ?_))
    refine ⟨.inr (by omega), ?_⟩
    (repeat' (first | walk_at "s" | refine stepS rfl ?_))
    refine F_take s6 (om391 hr0 hr1) fun w H7 hw0 hw1 f7 hl7 s7 => ?_
    (repeat' (first | walk_at "s" | refine stepS rfl ?_))
    refine ⟨lt_lit rfl, ?_⟩
    have s8 : Src (H7 ++ [.list [.int room, .int (2 * room), .int (1 + w)]]) s := s7.app
    refine F_one s8 get_len (Nat.ne_of_lt s7.lt) (lt_lit rfl) (lt_lit rfl) fun dd vv H9 hv f9 hl9 s9 => ?_
    have hvv : ∃ z : Nat, vv = .int z ∧ 0 < z ∧ z ≤ 3 * room := by
      rcases dd with _ | _ | _ | dd
      · cases hv; exact ⟨room, rfl, by exact om392 hr0, by exact om393⟩
      · cases hv; exact ⟨2 * room, by simp, by exact om394 hr0, by exact om395⟩
      · cases hv; exact ⟨(1 + w).toNat, by simp; exact om396 hw0, by exact om397 hw0, by exact om398 hw1⟩
      · simp at hv
    obtain ⟨z, rfl, hz0, hz1⟩ := hvv
    (repeat' (first | walk_at "s" | refine stepS rfl ?_))
    refine F_take s9 (by decide) fun fi H10 hfi0 hfi1 f10 hl10 s10 => tup_go rfl (List.cons_ne_nil _ _) rfl ?_
    have f11 : Fr [s] H6 (H10 ++ [.tup [.int z, .int fi]]) := f7.then ((Fr.app ..).then (f9.then (f10.then (Fr.app ..))))
    have S11 := S6.fr f11 oP1 oP0 oP2
    have s11 : Src (H10 ++ [.tup [.int z, .int fi]]) s := s10.app
    have hl11 := f11.len
    generalize (H10 ++ [AO.tup [.int z, .int fi]]) = H11 at *
    have oD : ∀ i, i < H11.length → i ∉ [H11.length + 2] := fun i h => by simp; exact om381 h
    (repeat' (first | walk_at "s" | refine stepS rfl ?_))
    refine ⟨by exact om399 hr1 hz1, ?_⟩
    rw [Int.toNat_natCast]
    simp only [capsOf, List.map_cons, List.map_nil, List.getElem?_cons_zero, List.getElem?_cons_succ, Option.getD_some]
    refine comp_pure (f := fun v => match v with | .int i => .int ((fi + 3 * i) % 256) | v => v) (fun v hv Q q => ?_) trivial ?_
    · obtain ⟨j, _, rfl⟩ := List.mem_map.mp hv
      (repeat' (first | walk_at "s" | refine stepS rfl ?_))
      refine ⟨.inl (by decide), ?_⟩
      (repeat' (first | walk_at "s" | refine stepS rfl ?_))
      exact ⟨by decide, q⟩
    · have hmm : ((List.range z).map fun (i : Nat) => AV.int i).map (fun v => match v with | .int i => .int ((fi + 3 * i) % 256) | v => v) = (((List.range z).map fun (i : Nat) => (fi + 3 * (i : Int)) % 256).map AV.int) := by
        rw [List.map_map, List.map_map]; rfl
      rw [hmm]
      refine x_bytes get_len (ints_map _) (fun n hn => ?_) (by simp; exact om400 hr1 hz1) ?_
      · obtain ⟨j, _, rfl⟩ := List.mem_map.mp hn
        exact ⟨Int.emod_nonneg _ (by decide), Int.emod_lt_of_pos _ (by decide)⟩
      generalize ho : (List.map (fun (n : Int) => n.toNat.toUInt8) ((List.range z).map fun (i : Nat) => (fi + 3 * (i : Int)) % 256)) = o
      have hol : o.length = z := by rw [← ho]; simp
      have hone : o ≠ [] := fun e => by rw [e] at hol; simp at hol; exact om401 hz0 hol
      (repeat' (first | walk_at "s" | refine stepS rfl ?_))
      refine ⟨by exact om402 hrm hr1, lt_lit rfl, ?_⟩
      have S12 := (S11.app (K := [.list (((List.range z).map fun (i : Nat) => (fi + 3 * (i : Int)) % 256).map AV.int)])).app (K := [.list [.byt (List.replicate (size : Int).toNat 0)]])
      refine ⟨_, _, _, _, S12.inst, S12.dict, rfl, F_page_count S12 (by rw [hpgl]; exact om379 hc1 hmany) ?_⟩
      refine ⟨_, get_len, by exact om55, by exact om403 hc1 hmany hpgl, tup_go rfl (List.cons_ne_nil _ _) rfl ?_⟩
      have hl13 : (H11 ++ [AO.list (((List.range z).map fun (i : Nat) => (fi + 3 * (i : Int)) % 256).map AV.int)] ++ [AO.list [.byt (List.replicate (size : Int).toNat 0)]]).length = H11.length + 2 := by simp
      have f13 := (Fr.app [] H11 [AO.list (((List.range z).map fun (i : Nat) => (fi + 3 * (i : Int)) % 256).map AV.int)]).then ((Fr.app _ _ [AO.list [.byt (List.replicate (size : Int).toNat 0)]]).then (Fr.app _ _ [AO.list (List.replicate ((List.replicate i (zeros size)).length : Int).toNat (.byt (List.replicate (size : Int).toNat 0)))]))
      have eD : (H11 ++ [AO.list (((List.range z).map fun (i : Nat) => (fi + 3 * (i : Int)) % 256).map AV.int)] ++ [AO.list [.byt (List.replicate (size : Int).toNat 0)]] ++ [AO.list (List.replicate ((List.replicate i (zeros size)).length : Int).toNat (.byt (List.replicate (size : Int).toNat 0)))])[H11.length + 2]? = some (.list (bytL (List.replicate i (zeros size)))) := by
        rw [get_app1 hl13.symm, bytL_rep, hpgl, Int.toNat_natCast, Int.toNat_natCast]; rfl
      rw [hl13]
      generalize (H11 ++ [AO.list (((List.range z).map fun (i : Nat) => (fi + 3 * (i : Int)) % 256).map AV.int)] ++ [AO.list [.byt (List.replicate (size : Int).toNat 0)]] ++ [AO.list (List.replicate ((List.replicate i (zeros size)).length : Int).toNat (.byt (List.replicate (size : Int).toNat 0)))]) = H13 at *
      have f14 := f13.then (Fr.app _ _ [AO.tup [AV.byt o, AV.ref (H11.length + 2)]])
      have eD' := get_app (K := [AO.tup [AV.byt o, AV.ref (H11.length + 2)]]) eD
      (repeat' (first | walk_at "s" | refine stepS rfl ?_))
      refine x_len eD' (bL (by rw [hpgl]; exact om379 hc1 hmany)) ?_
      rw [bytL_length, hpgl]
      (repeat' (first | walk_at "s" | refine stepS rfl ?_))
      refine tup_go rfl (List.cons_ne_nil _ _) rfl ?_
      have f15 := f14.then (Fr.app _ _ [AO.tup [AV.int ((i : Int) + 1), AV.byt o]])
      have eD5 := get_app (K := [AO.tup [AV.int ((i : Int) + 1), AV.byt o]]) eD'
      generalize (H13 ++ [AO.tup [AV.byt o, AV.ref (H11.length + 2)]] ++ [AO.tup [AV.int ((i : Int) + 1), AV.byt o]]) = H15 at *
      (repeat' (first | walk_at "s" | refine stepS rfl ?_))
      refine while_of (fun N loc H' => ∃ j y, N = (o.drop (j * room)).length ∧ j ≤ chN room o.length ∧ loc = [some (.ref s), some (.int size), some (.ref (H.length + 1)), some (.int room), x, some (.int z), some (.int fi), some (.byt o), some (.ref (H11.length + 2)), some (.int ((i : Int) + 1)), some (.byt (o.drop (j * room))), y] ∧
        Fr [H11.length + 2] H15 H' ∧ H'[H11.length + 2]? = some (.list (bytL (List.replicate i (zeros size) ++ (List.range j).map (chP room i o))))) ?_ (n := (o.drop (0 * room)).length) ⟨0, none, rfl, Nat.zero_le _, by simp, Fr.refl .., by simpa using eD5⟩
      rintro N loc H' K ⟨j, y, rfl, hj, rfl, f, gD⟩ hK
      (repeat' (first | walk_at "s" | refine stepS rfl ?_))
      by_cases hd : o.drop (j * room) = []
      · refine iteH_eq hd ?_
        have hnl : ¬ j < chN room o.length := fun g => by
          have := (chN_lt (om392 hr0)).mp g
          have h2 := congrArg List.length hd
          rw [List.length_drop, List.length_nil] at h2
          exact (om404 this h2).elim
        have hjc : j = chN room o.length := by exact om405 hj hnl
        subst hjc
        have fX : Fr [s, H11.length + 2] H6 H' := (f11.mono (by simp)).then (f15.nil.then (f.mono (by simp)))
        have S16 := S6.fr fX (by simp; exact om406 hsl lP6 hl11) (by simp; exact om407 hsl lP6 hl11) (by simp; exact om408 hsl lP6 hl11)
        (repeat' (first | walk_at "s" | refine stepS rfl ?_))
        refine F_append_chain S16 hs hrm (om392 hr0) (om387 hc1 hmany hpgl) hone (om409 hr1 hz1 hol) fun H17 f17 S17 => ?_
        rw [hpgl] at S17 ⊢
        (repeat' (first | walk_at "s" | refine stepS rfl ?_))
        refine iteH_pos om410 ?_
        refine S17.r_pages ?_
        refine x_eqR S17.pgs (f17.get _ _ gD (by simp; exact om411 lP6 hl11)) (.inr ⟨rfl, prim_bytL _, ?_⟩)
        have fin : Fr [s, H.length + 2, H11.length + 2] H1 H17 := (f4.mono (by simp)).then ((f5.mono (by simp)).then ((f6.mono (by simp)).then ((fX.mono (by simp)).then (f17.mono (by simp)))))
        (repeat' (first | walk_at "s" | refine stepS rfl ?_))
        refine q _ (Fr.trans f1.nil fin (by simp; exact om412 lP6 hl11)) ?_
        exact ((s11.fr f15 (by simp)).fr f (oD _ s11.lt)).fr f17 oS
      · refine iteH_ne hd ?_
        have hjl : j * room < o.length := by
          rcases Nat.lt_or_ge (j * room) o.length with g | g
          · exact g
          · exact absurd (List.drop_eq_nil_of_le g) hd
        have hjc : j < chN room o.length := (chN_lt (om392 hr0)).mpr hjl
        have hdl : (o.drop (j * room)).length < 100000 := by rw [List.length_drop]; exact om413 hr1 hz1 hol
        have hcj : j * 60 ≤ j * room := Nat.mul_le_mul_left j hr0
        (repeat' (first | walk_at "s" | refine stepS rfl ?_))
        refine ⟨hdl, hdl, ?_⟩
        rw [cut_take, cut_drop, List.drop_drop, show j * room + room = (j + 1) * room by rw [Nat.add_mul, Nat.one_mul], show (o.drop (j * room)).take room = chPart room o j from rfl]
        refine tup_go rfl (List.cons_ne_nil _ _) rfl ?_
        have fT := Fr.app [] H' [AO.tup [AV.byt (chPart room o j), AV.byt (o.drop ((j + 1) * room))]]
        have gD1 := fT.get _ _ gD (by simp)
        generalize (H' ++ [AO.tup [AV.byt (chPart room o j), AV.byt (o.drop ((j + 1) * room))]]) = H16 at *
        have hpart : (chPart room o j).length ≤ room := by unfold chPart; rw [List.length_take]; exact om79
        have hpart5 : (chPart room o j).length < 100000 := by exact om414 hr1 hpart
        have hlD : (bytL (List.replicate i (zeros size) ++ (List.range j).map (chP room i o))).length = i + j := by rw [bytL_length]; simp
        have hlD5 : (bytL (List.replicate i (zeros size) ++ (List.range j).map (chP room i o))).length < 100000 := by rw [hlD]; exact om415 hr1 hc1 hmany hz1 hol hjl hcj
        -- the page put down
        have fin : ∀ (nx : Int), nx = (if (j + 1) * room < o.length then (i + j + 2 : Nat) else 0) → ∀ zz, K [some (.ref s), some (.int size), some (.ref (H.length + 1)), some (.int room), x, some (.int z), some (.int fi), some (.byt o), some (.ref (H11.length + 2)), some (.int ((i : Int) + 1)), some (.byt (o.drop ((j + 1) * room))), some (.byt (chPart room o j))]
            ((H16 ++ [zz]).set (H11.length + 2) (.list (bytL (List.replicate i (zeros size) ++ (List.range j).map (chP room i o)) ++ [AV.byt (four nx ++ chPart room o j ++ List.replicate ((room : Int) - (chPart room o j).length).toNat 0)]))) := by
          intro nx hnx zz
          rw [← bytL_snoc, List.append_assoc]
          refine hK ((o.drop ((j + 1) * room)).length) ?_ _ _ ⟨j + 1, _, rfl, hjc, rfl, f.then (fT.nil.then ((Fr.app _ _ [zz]).then (Fr.put (by simp)))), ?_⟩
          · rw [List.length_drop, List.length_drop, Nat.add_mul, Nat.one_mul]; exact om416 hr0 hjl
          · refine (get_set_eq (get_app gD1)).trans ?_
            have hch : chP room i o j = four nx ++ chPart room o j ++ List.replicate ((room : Int) - (chPart room o j).length).toNat 0 := by
              rw [show ((room : Int) - (chPart room o j).length).toNat = room - (chPart room o j).length by exact om92]
              unfold chP zeros; rw [hnx]; split <;> rfl
            rw [List.range_succ, List.map_append, List.map_cons, List.map_nil, hch]
        have hrp : 0 ≤ (room : Int) - (chPart room o j).length ∧ (room : Int) - (chPart room o j).length < 100000 := by exact om417 hr1 hpart
        have hfl : ∀ m, (four m ++ chPart room o j).length + (List.replicate ((room : Int) - (chPart room o j).length).toNat (0 : UInt8)).length < 100000 := fun m => by simp [four]; exact om418 hr1 hrp
        have hf4 : ∀ m, (four m).length + (chPart room o j).length < 100000 := fun m => by simp [four]; exact om419 hr1 hrp
        (repeat' (first | walk_at "s" | refine stepS rfl ?_))
        refine ⟨⟨_, gD1⟩, ?_⟩
        by_cases hd2 : o.drop ((j + 1) * room) = []
        · refine iteH_eq hd2 ?_
          have hnl : ¬ (j + 1) * room < o.length := fun g => by
            have h2 := congrArg List.length hd2
            rw [List.length_drop, List.length_nil] at h2
            exact (om404 g h2).elim
          (repeat' (first | walk_at "s" | refine stepS rfl ?_))
          refine F_law_four (by decide) fun zz => ?_
          (repeat' (first | walk_at "s" | refine stepS rfl ?_))
          refine ⟨hf4 _, hpart5, ?_⟩
          (repeat' (first | walk_at "s" | refine stepS rfl ?_))
          refine ⟨hrp, hfl _, _, get_app gD1, hlD5, trivial, ?_⟩
          (repeat' (first | walk_at "s" | refine stepS rfl ?_))
          exact fin 0 (by rw [if_neg hnl]; rfl) zz
        · refine iteH_ne hd2 ?_
          have hyl : (j + 1) * room < o.length := by
            rcases Nat.lt_or_ge ((j + 1) * room) o.length with g | g
            · exact g
            · exact absurd (List.drop_eq_nil_of_le g) hd2
          (repeat' (first | walk_at "s" | refine stepS rfl ?_))
          refine x_len gD1 hlD5 ?_
          (repeat' (first | walk_at "s" | refine stepS rfl ?_))
          rw [hlD, show ((i + j : Nat) : Int) + 2 = ((i + j + 2 : Nat) : Int) by exact om420]
          refine F_law_four (om421 hr1 hc1 hmany hz1 hol hjl hcj) fun zz => ?_
          (repeat' (first | walk_at "s" | refine stepS rfl ?_))
          refine ⟨hf4 _, hpart5, ?_⟩
          (repeat' (first | walk_at "s" | refine stepS rfl ?_))
          refine ⟨hrp, hfl _, _, get_app gD1, hlD5, trivial, ?_⟩
          (repeat' (first | walk_at "s" | refine stepS rfl ?_))
          exact fin _ (by rw [if_pos hyl]) zz
end
noncomputable def rawT (i : Nat) : B := four (7 + i : Nat) ++ List.replicate 18 (ub (1 + i : Nat))
noncomputable def rawsT : List B := (List.range 3).map rawT
theorem rawsT_ok : ∀ b ∈ rawsT, RawOK 2 24 b := by
  intro b hb
  obtain ⟨i, hi, rfl⟩ := List.mem_map.mp hb
  have := List.mem_range.mp hi
  exact ⟨by simp [rawT, four], fun h => absurd h (by decide), fun _ => ⟨_, _, rfl, by exact om199, by exact om200 this⟩⟩
theorem two_pages : (stepF ((2 : Int) != 13) (((64 : Nat) : Int) - headK 2) [] [] rawsT).1.length = 2 := by decide +kernel
section
variable {H H' : AH} {Q : PQ} {n : Nat} {m : List Nat}
theorem F_told_right (q : ∀ H', Fr [] H H' → Q (.bool true) H') : Gam (n + 7) 401 [] H Q := by
  refine gam_go 42 [none, none, none, none, none] rfl rfl rfl ?_
  (repeat' (first | walk_at "s" | refine stepS rfl ?_))
  refine ⟨267, rfl, F_store_init fun S1 => ⟨rfl, ?_⟩⟩
  have f1 := Fr.app [] H [.dict [(.page_size, .int 64), (.pages, .ref (H.length + 2)), (.spare, .ref (H.length + 3))], .inst 312 H.length, .list [], .list []]
  have hl1 : (H ++ [AO.dict [(.page_size, .int 64), (.pages, .ref (H.length + 2)), (.spare, .ref (H.length + 3))], .inst 312 H.length, .list [], .list []]).length = H.length + 4 := by simp
  generalize (H ++ [AO.dict [(.page_size, .int 64), (.pages, .ref (H.length + 2)), (.spare, .ref (H.length + 3))], .inst 312 H.length, .list [], .list []]) = H1 at *
  (repeat' (first | walk_at "s" | refine stepS rfl ?_))
  refine ⟨by decide, ?_⟩
  refine comp_inv (fun rest acc H' => ∃ i, i ≤ 3 ∧ rest = ((List.range 3).drop i).map (fun (i : Nat) => AV.int i) ∧ acc = bytL ((List.range i).map rawT) ∧ Fr [] H1 H') ?_ ?_ ?_ _ _ _ ⟨0, by exact om201, rfl, rfl, Fr.refl ..⟩
  · intros; trivial
  · rintro v rest acc H' Q' ⟨i, hi, er, rfl, f⟩ k
    obtain ⟨hlt, rfl, rfl⟩ := rng_cons er
    (repeat' (first | walk_at "s" | refine stepS rfl ?_))
    refine F_law_four (om202 hlt) fun z => ?_
    (repeat' (first | walk_at "s" | refine stepS rfl ?_))
    refine ⟨lt_lit rfl, x_bytes get_len (ns := [1 + i]) rfl (by simp; exact om203 hlt) (lt_lit rfl) ?_⟩
    (repeat' (first | walk_at "s" | refine stepS rfl ?_))
    refine ⟨rfl, by decide, by decide, ?_⟩
    simp only [List.map_cons, List.map_nil]
    rw [flat_rep]
    refine ⟨by simp [four], k _ _ ⟨i + 1, hlt, rfl, ?_, f.then ((Fr.app ..).then (Fr.app ..))⟩⟩
    rw [List.range_succ, List.map_append, List.map_cons, List.map_nil, bytL_snoc]
    simp [rawT, ub]
  · rintro acc H2 ⟨i, hi, er, rfl, f2⟩
    cases rng_nil hi er
    refine tup_go rfl (List.cons_ne_nil _ _) rfl ?_
    have f3 := (Fr.app [] H2 [AO.list (bytL ((List.range 3).map rawT))]).then (Fr.app _ _ [AO.tup [.ref (H.length + 1), .ref H2.length]])
    have S3 := S1.fr0 (f2.then f3)
    have hR3 : (H2 ++ [AO.list (bytL ((List.range 3).map rawT))] ++ [AO.tup [.ref (H.length + 1), .ref H2.length]])[H2.length]? = some (.list (bytL rawsT)) := get_app get_len
    have hl2 := f2.len
    generalize (H2 ++ [AO.list (bytL ((List.range 3).map rawT))] ++ [AO.tup [.ref (H.length + 1), .ref H2.length]]) = H3 at *
    (repeat' (first | walk_at "s" | refine stepS rfl ?_))
    refine ⟨_, _, _, _, S3.inst, S3.dict, rfl, ?_⟩
    refine F_extend (sz := 64) S3 (by decide) (by decide) ⟨trivial, ?_⟩
    have f4 : Fr [H.length + 2] H3 (H3.set (H.length + 2) (.list (bytL ([] ++ [List.replicate 64 0])))) := Fr.put (by simp)
    have S4 := S3.put (pg' := [] ++ [List.replicate 64 0])
    have hR4 := f4.get _ _ hR3 (by simp; exact om204 hl1 hl2)
    generalize (H3.set (H.length + 2) (.list (bytL ([] ++ [List.replicate 64 0])))) = H4 at *
    obtain ⟨pages, ms, D⟩ := due_of (size := 64) (k := 2) (half := 24) (right := 5) (raws := rawsT) (by simp) (.inl rfl) (by decide) rawsT_ok (by decide) (by decide)
    have hb : ∀ b ∈ rawsT, b.length < 1000 := fun b hb => by have := (rawsT_ok b hb).1; exact om205 this
    have hn2 : pages.length = 2 := by have := two_pages; rw [D.fill] at this; exact this
    (repeat' (first | walk_at "s" | refine stepS rfl ?_))
    refine F_law_due (first := 2) D hR4 (by decide) hb (by decide) fun H5 T L A f5 hT hL hA hLl hAl => ?_
    have S5 := S4.fr0 f5
    have lP := get_lt S4.pgs
    have oL : L ∉ [H.length + 2] := by simp; exact om206 hLl lP
    have oA : A ∉ [H.length + 2] := by simp; exact om206 hAl lP
    rw [hn2] at hT
    (repeat' (first | walk_at "s" | refine stepS rfl ?_))
    refine ⟨_, hT, rfl, ?_⟩
    (repeat' (first | walk_at "s" | refine stepS rfl ?_))
    refine (store_told (n := n) D S5 (f5.get _ _ hR4 (by simp)) (by decide) hb (by simp) (by decide) (by simp) rfl (fun H8 T8 L8 f8 S8 e1 e2 => ?_)).2 (by decide)
    refine ⟨⟨lt_lit rfl, List.cons_ne_nil _ _⟩, ?_⟩
    have f9 := Fr.app [] H8 [AO.tup [.ref A, .int (2 + 2 - 1 : Nat)]]
    rw [hn2] at e1
    refine told_eq (get_app e1) get_len (get_app e2) (f9.get _ _ (f8.get _ _ hA oA) (by simp)) (prim_bytL _) trivial ?_
    have S9 := S8.fr0 f9
    (repeat' (first | walk_at "s" | refine stepS rfl ?_))
    refine S9.r_pages ?_
    (repeat' (first | walk_at "s" | refine stepS rfl ?_))
    refine ⟨by decide, lt_lit rfl, ?_⟩
    have f10 := f9.then (Fr.app [] _ [AO.list [.byt (List.replicate (64 : Int).toNat 0)]])
    have S10 := S8.fr0 f10
    have hll := laidB_length (size := (64 : Nat)) (k := 2) D.rts_len
    have hL8 := f8.get _ _ hL oL
    refine ⟨_, _, get_len, f10.get _ _ hL8 (by simp), by rw [bytL_length, hll, hn2]; exact lt_lit rfl, ?_⟩
    refine x_eqR (get_app S10.pgs) get_len (.inr ⟨?_, prim_bytL _, ?_⟩)
    · rw [bytL_app]; rfl
    have f11 := f10.then (Fr.app [] _ [AO.list ([.byt (List.replicate (64 : Int).toNat 0)] ++ bytL (laidB (64 : Nat) 2 pages (rtsOf 2 5 pages ms)))])
    (repeat' (first | walk_at "s" | refine stepS rfl ?_))
    refine x_len (f11.get _ _ hL8 (by simp)) (by rw [bytL_length, hll, hn2]; exact lt_lit rfl) ?_
    rw [bytL_length, hll, hn2]
    (repeat' (first | walk_at "s" | refine stepS rfl ?_))
    refine q _ ?_
    exact Fr.trans f1 (((f2.then f3).nil.then (f4.then (f5.nil.then (f8.then f11.nil)))) : Fr [H.length + 2] H1 _) (by simp)
theorem law_true {ns : List Int} {ob : Obj} (hl : ns.length ≤ 63) : Gam 15 408 [.ref 0] [.frz ns ob] fun v H' => v = .bool true ∧ H'[0]? = some (.frz ns ob) := by
  refine gam_go 43 [some (.ref 0), none, none] rfl rfl rfl ?_
  (repeat' (first | walk_at "s" | refine stepS rfl ?_))
  refine F_told_right (n := 7) fun H1 f1 => ?_
  have e1 := f1.get 0 _ rfl (by simp)
  have l1 := get_lt e1
  (repeat' (first | walk_at "s" | refine stepS rfl ?_))
  refine F_pool (n := 13) e1 (om207 hl) fun x s2 => ?_
  have e2 := get_app (K := [x]) e1
  have hs : H1.length ≠ 0 := by exact om208 l1
  generalize hs' : H1.length = s at *
  generalize (H1 ++ [x]) = H2 at *
  have o0 : 0 ∉ [s] := by simpa using hs.symm
  (repeat' (first | walk_at "s" | refine stepS rfl ?_))
  refine ⟨lt_lit rfl, ?_⟩
  refine F_one (n := 12) s2.app get_len (Nat.ne_of_lt s2.lt) (lt_lit rfl) (lt_lit rfl) fun d v H3 hv f3 hl3 s3 => ?_
  have hsize : ∃ size : Nat, v = .int size ∧ (size = 64 ∨ size = 128) := by
    rcases d with _ | _ | d
    · cases hv; exact ⟨64, rfl, .inl rfl⟩
    · cases hv; exact ⟨128, rfl, .inr rfl⟩
    · simp at hv
  obtain ⟨size, rfl, hsz⟩ := hsize
  have e3 := f3.get _ _ (get_app e2) o0
  (repeat' (first | walk_at "s" | refine stepS rfl ?_))
  refine ⟨lt_lit rfl, ?_⟩
  refine F_one (n := 12) s3.app get_len (Nat.ne_of_lt s3.lt) (lt_lit rfl) (lt_lit rfl) fun d v H4 hv f4 hl4 s4 => ?_
  have hkind : ∃ k : Int, v = .int k ∧ (k = 13 ∨ k = 10) := by
    rcases d with _ | _ | d
    · cases hv; exact ⟨13, rfl, .inl rfl⟩
    · cases hv; exact ⟨10, rfl, .inr rfl⟩
    · simp at hv
  obtain ⟨k, rfl, hk⟩ := hkind
  have e4 := f4.get _ _ (get_app e3) o0
  (repeat' (first | walk_at "s" | refine stepS rfl ?_))
  refine F_stored_right (n := 7) s4 (om209 hk) hsz fun H5 f5 s5 => ?_
  have e5 := f5.get _ _ e4 o0
  (repeat' (first | walk_at "s" | refine stepS rfl ?_))
  refine ⟨lt_lit rfl, ?_⟩
  refine F_one (n := 12) s5.app get_len (Nat.ne_of_lt s5.lt) (lt_lit rfl) (lt_lit rfl) fun d v H6 hv f6 hl6 s6 => ?_
  have hkind : ∃ k : Int, v = .int k ∧ (k = 2 ∨ k = 5) := by
    rcases d with _ | _ | d
    · cases hv; exact ⟨2, rfl, .inl rfl⟩
    · cases hv; exact ⟨5, rfl, .inr rfl⟩
    · simp at hv
  obtain ⟨k, rfl, hk⟩ := hkind
  have e6 := f6.get _ _ (get_app e5) o0
  (repeat' (first | walk_at "s" | refine stepS rfl ?_))
  refine F_stored_right (n := 7) s6 (om210 hk) hsz fun H7 f7 s7 => ?_
  have e7 := f7.get _ _ e6 o0
  (repeat' (first | walk_at "s" | refine stepS rfl ?_))
  refine F_chain_right (n := 9) s7 hsz fun H8 f8 s8 => ?_
  (repeat' (first | walk_at "s" | refine stepS rfl ?_))
  exact ⟨rfl, f8.get _ _ e7 o0⟩
end
end Mine
end
theorem PySem.Challenge.cw_xw0236_01_holds : PySem.Challenge.rw_xw0236_01.Holds := by
  exact Mine.fin_N fun ns ob h => Mine.law_true h
